import PyProof.Rows.All
import Wide.All
import OpenK.AllK
import Wide.FinOn
import PySem.Challenge.RW_qz0082_01
open PySem PySem.W PyProof.Rows
set_option Elab.async false
set_option maxRecDepth 100000
set_option compiler.extract_closed false
set_option maxHeartbeats 8000000
set_option tactic.hygienic false
namespace Mine
open List (mem_cons mem_append length_map mem_map mem_singleton mem_append_right getElem?_map mem_append_left nodup_cons map_append length_cons map_cons append_nil take_length length_append mem_of_getElem? not_mem_nil nodup_append length_nil mem_filter map_map foldl_cons mem_of_find?_eq_some cons_append append_assoc length_reverse length_take)
noncomputable abbrev hP0:Program:=PySem.Challenge.rw_qz0082_01.row.toRowW.prog
noncomputable abbrev hps0:Pos:=⟨0,0,0,0⟩
noncomputable def henv0:Env:={scope:=hP0.main.scope,locals:=mainNs,globals:=mainNs,cells:=[],code:=.ref 13,frame:=some 14}
noncomputable abbrev hbd0:List Stmt:=behindTheImports hP0
noncomputable abbrev hcd0:Code:=.body hbd0 henv0
noncomputable def ht0 (P:Params):BT :=
 .node (boot_o_0 P)
  (.node (boot_o_1 P)
   (.node (boot_o_3 P) (.node (boot_o_7 P) .nil .nil) (.node ⟨.type "tuple",none,.seq #[] 0,#[]⟩ .nil .nil))
   (.node (boot_o_5 P) (.node (boot_o_9 P) .nil .nil) (.node ⟨.type "code",none,.fields #[.str (Str.ofString "<module>") 182,.str (Str.ofString "<module>") 183,.str (Str.ofString "/claim/cut.py") 184,.int 1 0,.int 0 0,.int 0 0,.int 0 0,.int 0 0,.ref 11,.bool false,.int 181 0,.ref 12,.none,.none,.none,.none,.int 185 0,.int 1 0,.str (Str.ofString "/claim/cut.py") 186],#[]⟩ .nil .nil)))
  (.node (boot_o_2 P)
   (.node (boot_o_4 P) (.node (boot_o_8 P) .nil .nil) (.node ⟨.none,none,.fields #[],#[]⟩ .nil .nil))
   (.node (boot_o_6 P) (.node (boot_o_10 P) .nil .nil) (.node ⟨.type "frame",none,.plain,#[some (.ref 13),some (.ref 3),some (.ref 3),none,some (.str (Str.ofString "__main__") 164),none,some (.ref 0)]⟩ .nil .nil)))
noncomputable def hs0 (w:World) (os:OsState):SharedT:=⟨ht0 w.params,15,{},#[],{},187,os⟩
noncomputable def hfin0 {β:Type} (run:Shared->Thread->Option Shared) (look:Shared->β):Flow×SharedT×Code×Pos->Option (Code×β)
 | (.next,S,c,p)=>(run S.abs ⟨doneF .next,c,p,[topFrame hps0]⟩).map λ s=>(c,look s)
 | _=>none
theorem hpre0:∀w:World,(λ os=>topGo treeTable hP0 w 11 (some (.ref 6)) 12 ⟨boot_heap w.params,#[],boot_drawn,boot_toks,os⟩ (topStub hP0))=λ os=>some ((hs0 w os).abs,(⟨denote treeTable hcd0,hcd0,hps0,[topFrame hps0]⟩:Thread)):=by
 intro w
 kernel_rfl
theorem hblock0:∀w:World,(λ os=>segRun treeTable hP0 w 11 (some (.ref 6)) 1 1 (hs0 w os).abs (blockOf hbd0 henv0 hcd0 hps0 [topFrame hps0]))=λ os=>some (Flow.next,(hs0 w os).abs,hcd0,hps0):=by
 intro w
 kernel_rfl
theorem hopen0 (N:Nat) (hN:Nat.ble 600 N=true):∀w:World,(fencedOpening treeTable hP0 w N).map (λ s=>(s.heap,s.gens,s.drawn,s.toks))=some (boot_heap w.params,Array.mk [],boot_drawn,boot_toks) :=
 boot_open (by kernel_rfl) hN (λ s=>by kernel_rfl)
theorem hsize0 (w:World):((boot_heap w.params).isNs mainGlobals && (#[]:Array GenState).size == 0,(boot_heap w.params).objs.size,(boot_heap w.params).nsMap mainGlobals "__annotations__")=(true,11,some (.ref 6)):=by kernel_rfl
noncomputable abbrev hrun0 (w:World) (os:OsState):Option (Flow×SharedT×Code×Pos):=segRunT treeTable hP0 w 11 (some (.ref 6)) 1 5000 (hs0 w os) (piecesOf hbd0 henv0 hcd0 hps0 [topFrame hps0])
theorem hleft0 {q:Program} {loose:List Str} {Xt:Shared->Bool} {α:Type} {Yf:Shared->α} {Ya:World->α} {N:Nat} {g0:Bool} (hN:Nat.ble 600 N=true) (hM:Nat.ble 5063 N=true)
 (seen:∀w:World,(λ os=>(hrun0 w os).bind (hfin0 (topRun treeTable hP0 w 11 (some (.ref 6)) 50) λ s =>
  (staticsOk (importedModules hP0.main.body) (boot_heap w.params) s.heap && namesBound hP0 s.heap && gensDone s && laidKept (boot_heap w.params) s.heap,openSeen q loose (importedModules hP0.main.body) Xt g0 s)))=λ zz=>some (hcd0,true,openGood q loose))
 (all:∀w:World,(λ os=>(hrun0 w os).bind (hfin0 (topRun treeTable hP0 w 11 (some (.ref 6)) 50) Yf))=λ zz=>some (hcd0,Ya w)) :
 LeftO hP0 q loose Xt Yf Ya N g0:=λ w=>by
 obtain ⟨⟨h,gs,d,k,os⟩,e,e'⟩:=Option.map_eq_some_iff.mp (hopen0 N hN w)
 obtain ⟨rfl,rfl,rfl,rfl⟩:h=boot_heap w.params/\gs = #[]/\d=boot_drawn/\k=boot_toks:=by simpa using e'
 obtain ⟨⟨f,S,c,p'⟩,a1,a2⟩:=Option.bind_eq_some_iff.mp (congrFun (seen w) os)
 have a3:=congrFun (all w) os
 rw [a1] at a3
 cases f with
 | next =>
  unfold hfin0 at a2 a3
  dsimp only [Option.bind_some] at a2 a3
  obtain ⟨r,r1,r2⟩:=Option.map_eq_some_iff.mp a2
  obtain ⟨rfl,y2⟩:=Prod.mk.inj r2
  obtain ⟨l1,l2⟩:=Prod.mk.inj y2
  rw [r1] at a3
  have l3:=(Prod.mk.inj (Option.some.inj a3)).2
  have k1:=piece_app (rest:=[]) (segRun_of a1) (piece_nil r1)
  rw [append_nil] at k1
  have k3:=go_top (congrFun (hpre0 w) os) (piece_block (congrFun (hblock0 w) os) k1)
  have r9:=topRun_mono (N - 5063) _ _ _ _ k3
  rw [show 12+(1+(5000+50))+(N - 5063)=N by have:=Nat.le_of_ble_eq_true hM;omega] at r9
  obtain ⟨z1,z2,z3⟩:_/\_/\_:=by simpa only [Prod.mk.injEq] using hsize0 w
  unfold openEnds
  rw [e]
  show (topFrom treeTable hP0 w N _).map _=_
  unfold topFrom
  dsimp only
  rw [z1,z2,z3,r9]
  dsimp only [Option.bind_some]
  rw [l1]
  exact congrArg some (Prod.ext l2 l3)
 | _=>cases a2
noncomputable def V0:Program:=view hP0 [0,2,3,5,6,8,9,10,11,12,13,14,15,16,17,18,19,21,22,23,24,25,26,27,28,29,30,31,32,33,34,35,36,37,38,39,40,41,42,43,44,45,46,47,48,49,51,52,53,54,55,56,57,58,59,60]
theorem hlaw0:OpenLaw.wellSaid PySem.Challenge.rw_qz0082_01=true:=by kernel_rfl
theorem hch0:(chainsOk V0 && opensWell hP0 && (frees PySem.Challenge.rw_qz0082_01.row.toRowW && PySem.Challenge.rw_qz0082_01.row.toRowW.within.isEmpty))=true:=by kernel_rfl
theorem hseen0 (w:World):(λ os=>(hrun0 w os).bind (hfin0 (topRun treeTable hP0 w 11 (some (.ref 6)) 50) λ s =>
 (staticsOk (importedModules hP0.main.body) (boot_heap w.params) s.heap && namesBound hP0 s.heap && gensDone s && laidKept (boot_heap w.params) s.heap,openSeen V0 [Str.ofString "PaperError",Str.ofString "told_objects"] (importedModules hP0.main.body) (λ s=>xlAt V0 [] s && recOk (RowW.records PySem.Challenge.rw_qz0082_01.row.toRowW) s) true s)))=λ zz=>some (hcd0,true,openGood V0 [Str.ofString "PaperError",Str.ofString "told_objects"]):=by
 unfold hrun0
 rw [PySem.W.Fast.te10110043849684766642,PySem.W.Fast.te14364793385576792824,PySem.W.Fast.te14082659384304107361];kernel_rfl
noncomputable abbrev hL0:List Str:=[Str.ofString "PaperError",Str.ofString "told_objects"]
theorem hOpen (H:Hook) (all:∀w:World,(λ os=>(hrun0 w os).bind (hfin0 (topRun treeTable hP0 w 11 (some (.ref 6)) 50) (Hook.obs H)))=λ zz=>some (hcd0,Hook.val H w))
 {d:DefRec} {kwd:List (Str×Expr)} (said:PySem.Challenge.rw_qz0082_01.row.wellSaid=true) (hdef:defOf V0 PySem.Challenge.rw_qz0082_01.row.name=some (d,kwd)) (hp:PySem.Challenge.rw_qz0082_01.row.prog.theDef PySem.Challenge.rw_qz0082_01.row.name=some (d.params,d.body,d.scope))
 (hk:kwWritten? d.params.kwonlyargs d.params.kw_defaults=some kwd) (hw:PySem.Challenge.rw_qz0082_01.row.toRowW.promised) (hc:WalkO V0 hL0 (XL V0 []) (Hook.says H) PySem.Challenge.rw_qz0082_01.row.toRowW d kwd λ f vs=>PySem.call f vs):PySem.Challenge.rw_qz0082_01.row.Holds :=
 holds_open (q:=V0) (loose:=hL0) (Xt:=λ s=>xlAt V0 [] s && recOk (RowW.records PySem.Challenge.rw_qz0082_01.row.toRowW) s) (XP:=XL V0 []) (Yf:=Hook.obs H) (Ya:=Hook.val H) (YP:=Hook.says H) (N:=9066) (hleft0 (by rfl) (by rfl) hseen0 all) (Hook.of H) (Hook.keeps H) (λ s e=>xl_of s (Bool.and_eq_true_iff.mp e).1) XL.keeps hdef hp hk (λ s e=>recFacts_of (Bool.and_eq_true_iff.mp e).2) (by rfl) said hch0 ⟨rfl,rfl,rfl,rfl,rfl,by decide+kernel⟩ hw hc
local macro_rules | `(tactic| o_law) => `(tactic| refine holds_law hlaw0 λ said=>?_)
local macro_rules | `(tactic| o_head $H) => `(tactic| refine hOpen $H (λ w=>by unfold hrun0;rw [PySem.W.Fast.te10110043849684766642,PySem.W.Fast.te14364793385576792824,PySem.W.Fast.te14082659384304107361];kernel_rfl) (by assumption) (by rfl) (by rfl) (by rfl) ?hw ?hc)
open_top hd for PySem.Challenge.rw_qz0082_01
open PySem.Spec PySem.Calls
set_option compiler.extract_closed false
@[irreducible] noncomputable def wit {A:Type} (i:Nonempty A) (P:A->Prop):A:=@Classical.epsilon A i λ a=>¬ P a
theorem wit_all {A:Type} {P:A->Prop} (i:Nonempty A) (h:P (wit i P)) (a:A):P a:=by
 unfold wit at h
 exact Classical.byContradiction λ q=>Classical.epsilon_spec (p:=λ a=>¬ P a) ⟨a,q⟩ h
theorem ne2 {A B:Type} (i:Nonempty A) (j:Nonempty B):Nonempty (A×B):=i.elim λ a=>j.elim λ b=>⟨(a,b)⟩
theorem neShared:Nonempty Shared:=⟨{}⟩
theorem neAround:Nonempty Around:=⟨{}⟩
theorem neDrawn:Nonempty Drawn:=⟨{}⟩
theorem neWorld:Nonempty World:=⟨⟨λ zz zz=>0,{strHash:=λ zz=>0,shareClass:=λ zz=>0,mergeTok:=id,idOf:=λ zz=>0,idOfShared:=λ zz zz=>0,followText:=λ zz=>false,idOfImm:=λ zz=>0}⟩⟩
theorem neModel:Nonempty Model:=neWorld.elim λ w=>⟨⟨λ zz=>pure default,default,w⟩⟩
noncomputable def wit2 {A B:Type} (i:Nonempty (A×B)) (P:A->B->Prop):A×B:=wit i λ x=>P x.1 x.2
theorem all2 {A B:Type} {P:A->B->Prop} (i:Nonempty (A×B)) (h:P (wit2 i P).1 (wit2 i P).2):∀x0 x1,P x0 x1:=λ x0 x1=>wit_all (P:=λ x:A×B=>P x.1 x.2) i h (x0,x1)
noncomputable def wit3 {A B C:Type} (i:Nonempty (A×B×C)) (P:A->B->C->Prop):A×B×C:=wit i λ x=>P x.1 x.2.1 x.2.2
theorem all3 {A B C:Type} {P:A->B->C->Prop} (i:Nonempty (A×B×C)) (h:P (wit3 i P).1 (wit3 i P).2.1 (wit3 i P).2.2):∀x0 x1 x2,P x0 x1 x2:=λ x0 x1 x2=>wit_all (P:=λ x:A×B×C=>P x.1 x.2.1 x.2.2) i h (x0,x1,x2)
noncomputable def wit4 {A B C D:Type} (i:Nonempty (A×B×C×D)) (P:A->B->C->D->Prop):A×B×C×D:=wit i λ x=>P x.1 x.2.1 x.2.2.1 x.2.2.2
theorem all4 {A B C D:Type} {P:A->B->C->D->Prop} (i:Nonempty (A×B×C×D)) (h:P (wit4 i P).1 (wit4 i P).2.1 (wit4 i P).2.2.1 (wit4 i P).2.2.2):∀x0 x1 x2 x3,P x0 x1 x2 x3:=λ x0 x1 x2 x3=>wit_all (P:=λ x:A×B×C×D=>P x.1 x.2.1 x.2.2.1 x.2.2.2) i h (x0,x1,x2,x3)
noncomputable def wit5 {A B C D E:Type} (i:Nonempty (A×B×C×D×E)) (P:A->B->C->D->E->Prop):A×B×C×D×E:=wit i λ x=>P x.1 x.2.1 x.2.2.1 x.2.2.2.1 x.2.2.2.2
theorem all5 {A B C D E:Type} {P:A->B->C->D->E->Prop} (i:Nonempty (A×B×C×D×E)) (h:P (wit5 i P).1 (wit5 i P).2.1 (wit5 i P).2.2.1 (wit5 i P).2.2.2.1 (wit5 i P).2.2.2.2):∀x0 x1 x2 x3 x4,P x0 x1 x2 x3 x4:=λ x0 x1 x2 x3 x4=>wit_all (P:=λ x:A×B×C×D×E=>P x.1 x.2.1 x.2.2.1 x.2.2.2.1 x.2.2.2.2) i h (x0,x1,x2,x3,x4)
noncomputable def wit6 {A B C D E F:Type} (i:Nonempty (A×B×C×D×E×F)) (P:A->B->C->D->E->F->Prop):A×B×C×D×E×F:=wit i λ x=>P x.1 x.2.1 x.2.2.1 x.2.2.2.1 x.2.2.2.2.1 x.2.2.2.2.2
theorem all6 {A B C D E F:Type} {P:A->B->C->D->E->F->Prop} (i:Nonempty (A×B×C×D×E×F)) (h:P (wit6 i P).1 (wit6 i P).2.1 (wit6 i P).2.2.1 (wit6 i P).2.2.2.1 (wit6 i P).2.2.2.2.1 (wit6 i P).2.2.2.2.2):∀x0 x1 x2 x3 x4 x5,P x0 x1 x2 x3 x4 x5:=λ x0 x1 x2 x3 x4 x5=>wit_all (P:=λ x:A×B×C×D×E×F=>P x.1 x.2.1 x.2.2.1 x.2.2.2.1 x.2.2.2.2.1 x.2.2.2.2.2) i h (x0,x1,x2,x3,x4,x5)
noncomputable def wit7 {A B C D E F G:Type} (i:Nonempty (A×B×C×D×E×F×G)) (P:A->B->C->D->E->F->G->Prop):A×B×C×D×E×F×G:=wit i λ x=>P x.1 x.2.1 x.2.2.1 x.2.2.2.1 x.2.2.2.2.1 x.2.2.2.2.2.1 x.2.2.2.2.2.2
theorem all7 {A B C D E F G:Type} {P:A->B->C->D->E->F->G->Prop} (i:Nonempty (A×B×C×D×E×F×G)) (h:P (wit7 i P).1 (wit7 i P).2.1 (wit7 i P).2.2.1 (wit7 i P).2.2.2.1 (wit7 i P).2.2.2.2.1 (wit7 i P).2.2.2.2.2.1 (wit7 i P).2.2.2.2.2.2):∀x0 x1 x2 x3 x4 x5 x6,P x0 x1 x2 x3 x4 x5 x6:=λ x0 x1 x2 x3 x4 x5 x6=>wit_all (P:=λ x:A×B×C×D×E×F×G=>P x.1 x.2.1 x.2.2.1 x.2.2.2.1 x.2.2.2.2.1 x.2.2.2.2.2.1 x.2.2.2.2.2.2) i h (x0,x1,x2,x3,x4,x5,x6)
noncomputable def wit8 {A B C D E F G H:Type} (i:Nonempty (A×B×C×D×E×F×G×H)) (P:A->B->C->D->E->F->G->H->Prop):A×B×C×D×E×F×G×H:=wit i λ x=>P x.1 x.2.1 x.2.2.1 x.2.2.2.1 x.2.2.2.2.1 x.2.2.2.2.2.1 x.2.2.2.2.2.2.1 x.2.2.2.2.2.2.2
theorem all8 {A B C D E F G H:Type} {P:A->B->C->D->E->F->G->H->Prop} (i:Nonempty (A×B×C×D×E×F×G×H)) (h:P (wit8 i P).1 (wit8 i P).2.1 (wit8 i P).2.2.1 (wit8 i P).2.2.2.1 (wit8 i P).2.2.2.2.1 (wit8 i P).2.2.2.2.2.1 (wit8 i P).2.2.2.2.2.2.1 (wit8 i P).2.2.2.2.2.2.2):∀x0 x1 x2 x3 x4 x5 x6 x7,P x0 x1 x2 x3 x4 x5 x6 x7:=λ x0 x1 x2 x3 x4 x5 x6 x7=>wit_all (P:=λ x:A×B×C×D×E×F×G×H=>P x.1 x.2.1 x.2.2.1 x.2.2.2.1 x.2.2.2.2.1 x.2.2.2.2.2.1 x.2.2.2.2.2.2.1 x.2.2.2.2.2.2.2) i h (x0,x1,x2,x3,x4,x5,x6,x7)
noncomputable def wit9 {A B C D E F G H I:Type} (i:Nonempty (A×B×C×D×E×F×G×H×I)) (P:A->B->C->D->E->F->G->H->I->Prop):A×B×C×D×E×F×G×H×I:=wit i λ x=>P x.1 x.2.1 x.2.2.1 x.2.2.2.1 x.2.2.2.2.1 x.2.2.2.2.2.1 x.2.2.2.2.2.2.1 x.2.2.2.2.2.2.2.1 x.2.2.2.2.2.2.2.2
theorem all9 {A B C D E F G H I:Type} {P:A->B->C->D->E->F->G->H->I->Prop} (i:Nonempty (A×B×C×D×E×F×G×H×I)) (h:P (wit9 i P).1 (wit9 i P).2.1 (wit9 i P).2.2.1 (wit9 i P).2.2.2.1 (wit9 i P).2.2.2.2.1 (wit9 i P).2.2.2.2.2.1 (wit9 i P).2.2.2.2.2.2.1 (wit9 i P).2.2.2.2.2.2.2.1 (wit9 i P).2.2.2.2.2.2.2.2):∀x0 x1 x2 x3 x4 x5 x6 x7 x8,P x0 x1 x2 x3 x4 x5 x6 x7 x8:=λ x0 x1 x2 x3 x4 x5 x6 x7 x8=>wit_all (P:=λ x:A×B×C×D×E×F×G×H×I=>P x.1 x.2.1 x.2.2.1 x.2.2.2.1 x.2.2.2.2.1 x.2.2.2.2.2.1 x.2.2.2.2.2.2.1 x.2.2.2.2.2.2.2.1 x.2.2.2.2.2.2.2.2) i h (x0,x1,x2,x3,x4,x5,x6,x7,x8)
noncomputable def wit10 {A B C D E F G H I J:Type} (i:Nonempty (A×B×C×D×E×F×G×H×I×J)) (P:A->B->C->D->E->F->G->H->I->J->Prop):A×B×C×D×E×F×G×H×I×J:=wit i λ x=>P x.1 x.2.1 x.2.2.1 x.2.2.2.1 x.2.2.2.2.1 x.2.2.2.2.2.1 x.2.2.2.2.2.2.1 x.2.2.2.2.2.2.2.1 x.2.2.2.2.2.2.2.2.1 x.2.2.2.2.2.2.2.2.2
theorem all10 {A B C D E F G H I J:Type} {P:A->B->C->D->E->F->G->H->I->J->Prop} (i:Nonempty (A×B×C×D×E×F×G×H×I×J)) (h:P (wit10 i P).1 (wit10 i P).2.1 (wit10 i P).2.2.1 (wit10 i P).2.2.2.1 (wit10 i P).2.2.2.2.1 (wit10 i P).2.2.2.2.2.1 (wit10 i P).2.2.2.2.2.2.1 (wit10 i P).2.2.2.2.2.2.2.1 (wit10 i P).2.2.2.2.2.2.2.2.1 (wit10 i P).2.2.2.2.2.2.2.2.2):∀x0 x1 x2 x3 x4 x5 x6 x7 x8 x9,P x0 x1 x2 x3 x4 x5 x6 x7 x8 x9:=λ x0 x1 x2 x3 x4 x5 x6 x7 x8 x9=>wit_all (P:=λ x:A×B×C×D×E×F×G×H×I×J=>P x.1 x.2.1 x.2.2.1 x.2.2.2.1 x.2.2.2.2.1 x.2.2.2.2.2.1 x.2.2.2.2.2.2.1 x.2.2.2.2.2.2.2.1 x.2.2.2.2.2.2.2.2.1 x.2.2.2.2.2.2.2.2.2) i h (x0,x1,x2,x3,x4,x5,x6,x7,x8,x9)
noncomputable def wit11 {A B C D E F G H I J K:Type} (i:Nonempty (A×B×C×D×E×F×G×H×I×J×K)) (P:A->B->C->D->E->F->G->H->I->J->K->Prop):A×B×C×D×E×F×G×H×I×J×K:=wit i λ x=>P x.1 x.2.1 x.2.2.1 x.2.2.2.1 x.2.2.2.2.1 x.2.2.2.2.2.1 x.2.2.2.2.2.2.1 x.2.2.2.2.2.2.2.1 x.2.2.2.2.2.2.2.2.1 x.2.2.2.2.2.2.2.2.2.1 x.2.2.2.2.2.2.2.2.2.2
theorem all11 {A B C D E F G H I J K:Type} {P:A->B->C->D->E->F->G->H->I->J->K->Prop} (i:Nonempty (A×B×C×D×E×F×G×H×I×J×K)) (h:P (wit11 i P).1 (wit11 i P).2.1 (wit11 i P).2.2.1 (wit11 i P).2.2.2.1 (wit11 i P).2.2.2.2.1 (wit11 i P).2.2.2.2.2.1 (wit11 i P).2.2.2.2.2.2.1 (wit11 i P).2.2.2.2.2.2.2.1 (wit11 i P).2.2.2.2.2.2.2.2.1 (wit11 i P).2.2.2.2.2.2.2.2.2.1 (wit11 i P).2.2.2.2.2.2.2.2.2.2):∀x0 x1 x2 x3 x4 x5 x6 x7 x8 x9 x10,P x0 x1 x2 x3 x4 x5 x6 x7 x8 x9 x10:=λ x0 x1 x2 x3 x4 x5 x6 x7 x8 x9 x10=>wit_all (P:=λ x:A×B×C×D×E×F×G×H×I×J×K=>P x.1 x.2.1 x.2.2.1 x.2.2.2.1 x.2.2.2.2.1 x.2.2.2.2.2.1 x.2.2.2.2.2.2.1 x.2.2.2.2.2.2.2.1 x.2.2.2.2.2.2.2.2.1 x.2.2.2.2.2.2.2.2.2.1 x.2.2.2.2.2.2.2.2.2.2) i h (x0,x1,x2,x3,x4,x5,x6,x7,x8,x9,x10)
noncomputable def wit12 {A B C D E F G H I J K L:Type} (i:Nonempty (A×B×C×D×E×F×G×H×I×J×K×L)) (P:A->B->C->D->E->F->G->H->I->J->K->L->Prop):A×B×C×D×E×F×G×H×I×J×K×L:=wit i λ x=>P x.1 x.2.1 x.2.2.1 x.2.2.2.1 x.2.2.2.2.1 x.2.2.2.2.2.1 x.2.2.2.2.2.2.1 x.2.2.2.2.2.2.2.1 x.2.2.2.2.2.2.2.2.1 x.2.2.2.2.2.2.2.2.2.1 x.2.2.2.2.2.2.2.2.2.2.1 x.2.2.2.2.2.2.2.2.2.2.2
theorem all12 {A B C D E F G H I J K L:Type} {P:A->B->C->D->E->F->G->H->I->J->K->L->Prop} (i:Nonempty (A×B×C×D×E×F×G×H×I×J×K×L)) (h:P (wit12 i P).1 (wit12 i P).2.1 (wit12 i P).2.2.1 (wit12 i P).2.2.2.1 (wit12 i P).2.2.2.2.1 (wit12 i P).2.2.2.2.2.1 (wit12 i P).2.2.2.2.2.2.1 (wit12 i P).2.2.2.2.2.2.2.1 (wit12 i P).2.2.2.2.2.2.2.2.1 (wit12 i P).2.2.2.2.2.2.2.2.2.1 (wit12 i P).2.2.2.2.2.2.2.2.2.2.1 (wit12 i P).2.2.2.2.2.2.2.2.2.2.2):∀x0 x1 x2 x3 x4 x5 x6 x7 x8 x9 x10 x11,P x0 x1 x2 x3 x4 x5 x6 x7 x8 x9 x10 x11:=λ x0 x1 x2 x3 x4 x5 x6 x7 x8 x9 x10 x11=>wit_all (P:=λ x:A×B×C×D×E×F×G×H×I×J×K×L=>P x.1 x.2.1 x.2.2.1 x.2.2.2.1 x.2.2.2.2.1 x.2.2.2.2.2.1 x.2.2.2.2.2.2.1 x.2.2.2.2.2.2.2.1 x.2.2.2.2.2.2.2.2.1 x.2.2.2.2.2.2.2.2.2.1 x.2.2.2.2.2.2.2.2.2.2.1 x.2.2.2.2.2.2.2.2.2.2.2) i h (x0,x1,x2,x3,x4,x5,x6,x7,x8,x9,x10,x11)
@[reducible] def sxs (l:Array Lean.Syntax):Lean.Syntax:=.node .none `Lean.Parser.Tactic.tacticSeq #[.node .none `Lean.Parser.Tactic.tacticSeq1Indented #[.node .none `null l]]
@[reducible] def sx (k:Lean.Name) (a:String):Lean.Syntax:=sxs #[.node .none k #[.atom .none a]]
@[reducible] def aK:Lean.Syntax:=sx `PySem.W.tacticKds_road "kds_road"
@[reducible] def aR:Lean.Syntax:=sx `Lean.Parser.Tactic.tacticRfl "rfl"
@[reducible] def aQ:Lean.Syntax:=sx `tacticKernel_rfl "kernel_rfl"
@[reducible] def aI:Lean.Syntax:=sx `PySem.W.tacticKqd_in "kqd_in"
@[reducible] def aB:Lean.Syntax:=sx `PySem.W.tacticKbd_text "kbd_text"
@[reducible] def aS:Lean.Syntax:=sx `tacticSize_fits "size_fits"
@[reducible] def aA:Lean.Syntax:=sx `Lean.Parser.Tactic.assumption "assumption"
@[reducible] def aD:Lean.Syntax:=sxs #[.node .none `Lean.Parser.Tactic.decide #[.atom .none "decide",.node .none `Lean.Parser.Tactic.optConfig #[.node .none `null #[]]]]
local macro_rules | `(tactic| kds_road) => `(tactic| with_unfolding_all first | (intros;rfl) | exact λ zz zz=>rfl)
local macro_rules | `(tactic| f_shut $x) => `(tactic| first | (injection $x;done) | (injection $x with q;subst q) | subst $x | exact absurd $x not_mem_nil | exact absurd $x (Nat.not_lt_zero _) | cases ($x))
local macro_rules | `(tactic| k_flat) => `(tactic| first | with_reducible assumption | with_reducible exact List.mem_cons_self | (with_reducible refine mem_append_left _ ?_;k_flat) | (with_reducible refine mem_append_right _ ?_;k_flat) | (with_reducible refine List.mem_cons_of_mem _ ?_;k_flat))
local macro_rules | `(tactic| kso_open $h) => `(tactic| first | k_flat | (refine (mem_append.mp $h).elim ?_ ?_ <;> (intro q;kso_open q)) | (rcases mem_cons.mp $h with rfl | q;k_flat;kso_open q) | exact absurd $h not_mem_nil)
local macro_rules | `(tactic| kbd_text) => `(tactic| with_unfolding_all exact Nat.le_of_ble_eq_true rfl)
local macro_rules | `(tactic| kqd_in) => `(tactic| first | exact Or.inr rfl | exact Or.inl rfl)
set_option compiler.extract_closed false
open Lean in
local macro_rules
 | `(tactic| ctx_has $ids*)=>do
  let ne ← ([`neMV,`neWd,`neCx,`neInfo,`neFo,`neSpR,`neShared,`neAround,`neWorld,`neDrawn,`neModel]:List Name).toArray.mapM λ n => `(tactic| exact $(mkIdent n))
  let mut ts:Array (TSyntax `tactic) := #[←`(tactic| revert $ids*)]
  let mut i:=0
  while i < ids.size do
   let k:=(ids.size - i+11) / 12
   let n:=(ids.size - i+k - 1) / k
   let w:=mkIdent (.mkSimple (if n=1 then "wit" else s!"wit{n}"))
   let a:=mkIdent (.mkSimple (if n=1 then "wit_all" else s!"all{n}"))
   ts:=ts.push (←`(tactic| (refine' no_implicit_lambda% ($a ?ne ?_);case ne=>repeat (first | exact ⟨default⟩ $[| $ne:tactic]* | refine ne2 ?_ ?_))))
   let mut p:TSyntax `term ← `(($w _ _))
   for j in [0:n] do
    let q ← if j+1 < n then `(Prod.fst $p) else pure p
    ts:=ts.push (←`(tactic| generalize $q:term = $(ids[i+j]!):ident))
    p ← `(Prod.snd $p)
   i:=i+n
  ts:=ts.push (←`(tactic| set_option tactic.hygienic false in intros))
  `(tactic| ($[$ts:tactic]*))
set_option compiler.extract_closed false
theorem E0_3 {P Q R:Prop} {G:Prop} (h:P/\Q/\R) (k:P->Q->R->G):G:=k h.1 h.2.1 h.2.2
theorem E0_4 {P Q R S:Prop} {G:Prop} (h:P/\Q/\R/\S) (k:P->Q->R->S->G):G:=k h.1 h.2.1 h.2.2.1 h.2.2.2
theorem E0_5 {P Q R S T:Prop} {G:Prop} (h:P/\Q/\R/\S/\T) (k:P->Q->R->S->T->G):G:=k h.1 h.2.1 h.2.2.1 h.2.2.2.1 h.2.2.2.2
theorem E0_6 {P Q R S T U:Prop} {G:Prop} (h:P/\Q/\R/\S/\T/\U) (k:P->Q->R->S->T->U->G):G:=k h.1 h.2.1 h.2.2.1 h.2.2.2.1 h.2.2.2.2.1 h.2.2.2.2.2
theorem E0_7 {P Q R S T U V:Prop} {G:Prop} (h:P/\Q/\R/\S/\T/\U/\V) (k:P->Q->R->S->T->U->V->G):G:=k h.1 h.2.1 h.2.2.1 h.2.2.2.1 h.2.2.2.2.1 h.2.2.2.2.2.1 h.2.2.2.2.2.2
theorem E1_2 {A:Type} {P Q:A->Prop} {G:Prop} (h:∃a,P a/\Q a) (k:∀a,P a->Q a->G):G:=h.elim λ a h=>k a h.1 h.2
theorem E1_3 {A:Type} {P Q R:A->Prop} {G:Prop} (h:∃a,P a/\Q a/\R a) (k:∀a,P a->Q a->R a->G):G:=h.elim λ a h=>k a h.1 h.2.1 h.2.2
theorem E1_4 {A:Type} {P Q R S:A->Prop} {G:Prop} (h:∃a,P a/\Q a/\R a/\S a) (k:∀a,P a->Q a->R a->S a->G):G:=h.elim λ a h=>k a h.1 h.2.1 h.2.2.1 h.2.2.2
theorem E1_5 {A:Type} {P Q R S T:A->Prop} {G:Prop} (h:∃a,P a/\Q a/\R a/\S a/\T a) (k:∀a,P a->Q a->R a->S a->T a->G):G:=h.elim λ a h=>k a h.1 h.2.1 h.2.2.1 h.2.2.2.1 h.2.2.2.2
theorem E2_1 {A B:Type} {P:A->B->Prop} {G:Prop} (h:∃a b,P a b) (k:∀a b,P a b->G):G:=h.elim λ a h=>h.elim λ b h=>k a b h
theorem E2_2 {A B:Type} {P Q:A->B->Prop} {G:Prop} (h:∃a b,P a b/\Q a b) (k:∀a b,P a b->Q a b->G):G:=h.elim λ a h=>h.elim λ b h=>k a b h.1 h.2
theorem E2_3 {A B:Type} {P Q R:A->B->Prop} {G:Prop} (h:∃a b,P a b/\Q a b/\R a b) (k:∀a b,P a b->Q a b->R a b->G):G:=h.elim λ a h=>h.elim λ b h=>k a b h.1 h.2.1 h.2.2
theorem E2_4 {A B:Type} {P Q R S:A->B->Prop} {G:Prop} (h:∃a b,P a b/\Q a b/\R a b/\S a b) (k:∀a b,P a b->Q a b->R a b->S a b->G):G:=h.elim λ a h=>h.elim λ b h=>k a b h.1 h.2.1 h.2.2.1 h.2.2.2
theorem E2_5 {A B:Type} {P Q R S T:A->B->Prop} {G:Prop} (h:∃a b,P a b/\Q a b/\R a b/\S a b/\T a b) (k:∀a b,P a b->Q a b->R a b->S a b->T a b->G):G:=h.elim λ a h=>h.elim λ b h=>k a b h.1 h.2.1 h.2.2.1 h.2.2.2.1 h.2.2.2.2
theorem E2_6 {A B:Type} {P Q R S T U:A->B->Prop} {G:Prop} (h:∃a b,P a b/\Q a b/\R a b/\S a b/\T a b/\U a b) (k:∀a b,P a b->Q a b->R a b->S a b->T a b->U a b->G):G:=h.elim λ a h=>h.elim λ b h=>k a b h.1 h.2.1 h.2.2.1 h.2.2.2.1 h.2.2.2.2.1 h.2.2.2.2.2
theorem E3_2 {A B C:Type} {P Q:A->B->C->Prop} {G:Prop} (h:∃a b c,P a b c/\Q a b c) (k:∀a b c,P a b c->Q a b c->G):G:=h.elim λ a h=>h.elim λ b h=>h.elim λ c h=>k a b c h.1 h.2
theorem E3_3 {A B C:Type} {P Q R:A->B->C->Prop} {G:Prop} (h:∃a b c,P a b c/\Q a b c/\R a b c) (k:∀a b c,P a b c->Q a b c->R a b c->G):G:=h.elim λ a h=>h.elim λ b h=>h.elim λ c h=>k a b c h.1 h.2.1 h.2.2
theorem E3_4 {A B C:Type} {P Q R S:A->B->C->Prop} {G:Prop} (h:∃a b c,P a b c/\Q a b c/\R a b c/\S a b c) (k:∀a b c,P a b c->Q a b c->R a b c->S a b c->G):G:=h.elim λ a h=>h.elim λ b h=>h.elim λ c h=>k a b c h.1 h.2.1 h.2.2.1 h.2.2.2
theorem E3_5 {A B C:Type} {P Q R S T:A->B->C->Prop} {G:Prop} (h:∃a b c,P a b c/\Q a b c/\R a b c/\S a b c/\T a b c) (k:∀a b c,P a b c->Q a b c->R a b c->S a b c->T a b c->G):G:=h.elim λ a h=>h.elim λ b h=>h.elim λ c h=>k a b c h.1 h.2.1 h.2.2.1 h.2.2.2.1 h.2.2.2.2
theorem E3_6 {A B C:Type} {P Q R S T U:A->B->C->Prop} {G:Prop} (h:∃a b c,P a b c/\Q a b c/\R a b c/\S a b c/\T a b c/\U a b c) (k:∀a b c,P a b c->Q a b c->R a b c->S a b c->T a b c->U a b c->G):G:=h.elim λ a h=>h.elim λ b h=>h.elim λ c h=>k a b c h.1 h.2.1 h.2.2.1 h.2.2.2.1 h.2.2.2.2.1 h.2.2.2.2.2
theorem E3_7 {A B C:Type} {P Q R S T U V:A->B->C->Prop} {G:Prop} (h:∃a b c,P a b c/\Q a b c/\R a b c/\S a b c/\T a b c/\U a b c/\V a b c) (k:∀a b c,P a b c->Q a b c->R a b c->S a b c->T a b c->U a b c->V a b c->G):G:=h.elim λ a h=>h.elim λ b h=>h.elim λ c h=>k a b c h.1 h.2.1 h.2.2.1 h.2.2.2.1 h.2.2.2.2.1 h.2.2.2.2.2.1 h.2.2.2.2.2.2
theorem E3_11 {A B C:Type} {P Q R S T U V W X Y Z:A->B->C->Prop} {G:Prop} (h:∃a b c,P a b c/\Q a b c/\R a b c/\S a b c/\T a b c/\U a b c/\V a b c/\W a b c/\X a b c/\Y a b c/\Z a b c) (k:∀a b c,P a b c->Q a b c->R a b c->S a b c->T a b c->U a b c->V a b c->W a b c->X a b c->Y a b c->Z a b c->G):G:=h.elim λ a h=>h.elim λ b h=>h.elim λ c h=>k a b c h.1 h.2.1 h.2.2.1 h.2.2.2.1 h.2.2.2.2.1 h.2.2.2.2.2.1 h.2.2.2.2.2.2.1 h.2.2.2.2.2.2.2.1 h.2.2.2.2.2.2.2.2.1 h.2.2.2.2.2.2.2.2.2.1 h.2.2.2.2.2.2.2.2.2.2
theorem E4_2 {A B C D:Type} {P Q:A->B->C->D->Prop} {G:Prop} (h:∃a b c d,P a b c d/\Q a b c d) (k:∀a b c d,P a b c d->Q a b c d->G):G:=h.elim λ a h=>h.elim λ b h=>h.elim λ c h=>h.elim λ d h=>k a b c d h.1 h.2
theorem E4_4 {A B C D:Type} {P Q R S:A->B->C->D->Prop} {G:Prop} (h:∃a b c d,P a b c d/\Q a b c d/\R a b c d/\S a b c d) (k:∀a b c d,P a b c d->Q a b c d->R a b c d->S a b c d->G):G:=h.elim λ a h=>h.elim λ b h=>h.elim λ c h=>h.elim λ d h=>k a b c d h.1 h.2.1 h.2.2.1 h.2.2.2
theorem E4_5 {A B C D:Type} {P Q R S T:A->B->C->D->Prop} {G:Prop} (h:∃a b c d,P a b c d/\Q a b c d/\R a b c d/\S a b c d/\T a b c d) (k:∀a b c d,P a b c d->Q a b c d->R a b c d->S a b c d->T a b c d->G):G:=h.elim λ a h=>h.elim λ b h=>h.elim λ c h=>h.elim λ d h=>k a b c d h.1 h.2.1 h.2.2.1 h.2.2.2.1 h.2.2.2.2
theorem E4_9 {A B C D:Type} {P Q R S T U V W X:A->B->C->D->Prop} {G:Prop} (h:∃a b c d,P a b c d/\Q a b c d/\R a b c d/\S a b c d/\T a b c d/\U a b c d/\V a b c d/\W a b c d/\X a b c d) (k:∀a b c d,P a b c d->Q a b c d->R a b c d->S a b c d->T a b c d->U a b c d->V a b c d->W a b c d->X a b c d->G):G:=h.elim λ a h=>h.elim λ b h=>h.elim λ c h=>h.elim λ d h=>k a b c d h.1 h.2.1 h.2.2.1 h.2.2.2.1 h.2.2.2.2.1 h.2.2.2.2.2.1 h.2.2.2.2.2.2.1 h.2.2.2.2.2.2.2.1 h.2.2.2.2.2.2.2.2
theorem E5_1 {A B C D E:Type} {P:A->B->C->D->E->Prop} {G:Prop} (h:∃a b c d e,P a b c d e) (k:∀a b c d e,P a b c d e->G):G:=h.elim λ a h=>h.elim λ b h=>h.elim λ c h=>h.elim λ d h=>h.elim λ e h=>k a b c d e h
theorem E5_3 {A B C D E:Type} {P Q R:A->B->C->D->E->Prop} {G:Prop} (h:∃a b c d e,P a b c d e/\Q a b c d e/\R a b c d e) (k:∀a b c d e,P a b c d e->Q a b c d e->R a b c d e->G):G:=h.elim λ a h=>h.elim λ b h=>h.elim λ c h=>h.elim λ d h=>h.elim λ e h=>k a b c d e h.1 h.2.1 h.2.2
theorem E5_6 {A B C D E:Type} {P Q R S T U:A->B->C->D->E->Prop} {G:Prop} (h:∃a b c d e,P a b c d e/\Q a b c d e/\R a b c d e/\S a b c d e/\T a b c d e/\U a b c d e) (k:∀a b c d e,P a b c d e->Q a b c d e->R a b c d e->S a b c d e->T a b c d e->U a b c d e->G):G:=h.elim λ a h=>h.elim λ b h=>h.elim λ c h=>h.elim λ d h=>h.elim λ e h=>k a b c d e h.1 h.2.1 h.2.2.1 h.2.2.2.1 h.2.2.2.2.1 h.2.2.2.2.2
theorem E5_7 {A B C D E:Type} {P Q R S T U V:A->B->C->D->E->Prop} {G:Prop} (h:∃a b c d e,P a b c d e/\Q a b c d e/\R a b c d e/\S a b c d e/\T a b c d e/\U a b c d e/\V a b c d e) (k:∀a b c d e,P a b c d e->Q a b c d e->R a b c d e->S a b c d e->T a b c d e->U a b c d e->V a b c d e->G):G:=h.elim λ a h=>h.elim λ b h=>h.elim λ c h=>h.elim λ d h=>h.elim λ e h=>k a b c d e h.1 h.2.1 h.2.2.1 h.2.2.2.1 h.2.2.2.2.1 h.2.2.2.2.2.1 h.2.2.2.2.2.2
theorem E6_3 {A B C D E F:Type} {P Q R:A->B->C->D->E->F->Prop} {G:Prop} (h:∃a b c d e f,P a b c d e f/\Q a b c d e f/\R a b c d e f) (k:∀a b c d e f,P a b c d e f->Q a b c d e f->R a b c d e f->G):G:=h.elim λ a h=>h.elim λ b h=>h.elim λ c h=>h.elim λ d h=>h.elim λ e h=>h.elim λ f h=>k a b c d e f h.1 h.2.1 h.2.2
theorem E6_6 {A B C D E F:Type} {P Q R S T U:A->B->C->D->E->F->Prop} {G:Prop} (h:∃a b c d e f,P a b c d e f/\Q a b c d e f/\R a b c d e f/\S a b c d e f/\T a b c d e f/\U a b c d e f) (k:∀a b c d e f,P a b c d e f->Q a b c d e f->R a b c d e f->S a b c d e f->T a b c d e f->U a b c d e f->G):G:=h.elim λ a h=>h.elim λ b h=>h.elim λ c h=>h.elim λ d h=>h.elim λ e h=>h.elim λ f h=>k a b c d e f h.1 h.2.1 h.2.2.1 h.2.2.2.1 h.2.2.2.2.1 h.2.2.2.2.2
theorem E6_9 {A B C D E F:Type} {P Q R S T U V W X:A->B->C->D->E->F->Prop} {G:Prop} (h:∃a b c d e f,P a b c d e f/\Q a b c d e f/\R a b c d e f/\S a b c d e f/\T a b c d e f/\U a b c d e f/\V a b c d e f/\W a b c d e f/\X a b c d e f) (k:∀a b c d e f,P a b c d e f->Q a b c d e f->R a b c d e f->S a b c d e f->T a b c d e f->U a b c d e f->V a b c d e f->W a b c d e f->X a b c d e f->G):G:=h.elim λ a h=>h.elim λ b h=>h.elim λ c h=>h.elim λ d h=>h.elim λ e h=>h.elim λ f h=>k a b c d e f h.1 h.2.1 h.2.2.1 h.2.2.2.1 h.2.2.2.2.1 h.2.2.2.2.2.1 h.2.2.2.2.2.2.1 h.2.2.2.2.2.2.2.1 h.2.2.2.2.2.2.2.2
theorem E7_4 {A B C D E F I:Type} {P Q R S:A->B->C->D->E->F->I->Prop} {G:Prop} (h:∃a b c d e f i,P a b c d e f i/\Q a b c d e f i/\R a b c d e f i/\S a b c d e f i) (k:∀a b c d e f i,P a b c d e f i->Q a b c d e f i->R a b c d e f i->S a b c d e f i->G):G:=h.elim λ a h=>h.elim λ b h=>h.elim λ c h=>h.elim λ d h=>h.elim λ e h=>h.elim λ f h=>h.elim λ i h=>k a b c d e f i h.1 h.2.1 h.2.2.1 h.2.2.2
theorem E8_11 {A B C D E F I J:Type} {P Q R S T U V W X Y Z:A->B->C->D->E->F->I->J->Prop} {G:Prop} (h:∃a b c d e f i j,P a b c d e f i j/\Q a b c d e f i j/\R a b c d e f i j/\S a b c d e f i j/\T a b c d e f i j/\U a b c d e f i j/\V a b c d e f i j/\W a b c d e f i j/\X a b c d e f i j/\Y a b c d e f i j/\Z a b c d e f i j) (k:∀a b c d e f i j,P a b c d e f i j->Q a b c d e f i j->R a b c d e f i j->S a b c d e f i j->T a b c d e f i j->U a b c d e f i j->V a b c d e f i j->W a b c d e f i j->X a b c d e f i j->Y a b c d e f i j->Z a b c d e f i j->G):G:=h.elim λ a h=>h.elim λ b h=>h.elim λ c h=>h.elim λ d h=>h.elim λ e h=>h.elim λ f h=>h.elim λ i h=>h.elim λ j h=>k a b c d e f i j h.1 h.2.1 h.2.2.1 h.2.2.2.1 h.2.2.2.2.1 h.2.2.2.2.2.1 h.2.2.2.2.2.2.1 h.2.2.2.2.2.2.2.1 h.2.2.2.2.2.2.2.2.1 h.2.2.2.2.2.2.2.2.2.1 h.2.2.2.2.2.2.2.2.2.2
noncomputable abbrev V:=Mine.V0
noncomputable abbrev PG:Program:=PySem.Challenge.rw_qz0082_01.row.prog
noncomputable def zS:Str:=Str.ofString "z"
noncomputable def PhP (_:Frag):Prop:=True
noncomputable def phGet (x:Frag) (_:PhP x):Frag:=x
noncomputable def HP (p:Params):Frag:=by
 have _h:zS=Str.ofString "z":=rfl
 refine phGet ?x ?h
 case h =>
  have q:PhP (Mine.hd.heap_1 p):=trivial
  delta Mine.hd.heap_1 at q
  exact q
noncomputable abbrev Lg:=List (Addr×Obj)
set_option genSizeOf false
inductive MV where
 | none
 | bool (b:Bool)
 | int (i:Int)
 | str (s:Str)
 | tup (l:List MV)
 | lst (l:List MV)
 | dct (kvs:List (Str×MV))
 | ict (kvs:List (Int×MV))
 | ptr (a:Addr)
 | inst (C:Nat) (fs:List (String×MV))
theorem neMV:Nonempty MV:=⟨.none⟩
noncomputable abbrev tupO (vs:List Value) (k:Nat):Obj:={cls:=.type "tuple",data:=.seq vs.toArray k}
noncomputable abbrev ent (w:World) (x:String) (k:Tok) (v:Value):DictEntry:=⟨PyData.keyHash w.params (Str.ofString x),.str (Str.ofString x) k,v⟩
set_option genInjectivity false
inductive All2 {α β:Type} (R:α->β->Prop):List α->List β->Prop
 | nil:All2 R [] []
 | cons {v:α} {vs:List α} {m:β} {ms:List β}:R v m->All2 R vs ms->All2 R (v::vs) (m::ms)
inductive AllK {κ α β:Type} (R:α->β->Prop):List (κ×α)->List (κ×β)->Prop
 | nil:AllK R [] []
 | cons {x:κ} {v:α} {m:β} {r:List (κ×α)} {q:List (κ×β)}:R v m->AllK R r q->AllK R ((x,v)::r) ((x,m)::q)
inductive AllF (w:World) {β:Type} (R:Value->β->Prop):List DictEntry->List (String×β)->Prop
 | nil:AllF w R [] []
 | cons {x:String} {k:Tok} {v:Value} {m:β} {r:List DictEntry} {q:List (String×β)}:R v m->AllF w R r q->AllF w R (ent w x k v::r) ((x,m)::q)
inductive MF (w:World) (N:Lg) (P:Value->MV->Prop):Value->MV->Prop
 | none:MF w N P .none .none
 | bool (b:Bool):MF w N P (.bool b) (.bool b)
 | int (i:Int) (t:Tok):MF w N P (.int i t) (.int i)
 | str (x:Str) (t:Tok):MF w N P (.str x t) (.str x)
 | tup {a:Addr} {vs:List Value} {k:Nat} {ms:List MV}:(a,tupO vs k)∈N->All2 P vs ms->MF w N P (.ref a) (.tup ms)
 | lst {a:Addr} {vs:List Value} {k:Nat} {ms:List MV}:(a,listOf vs.toArray k)∈N->All2 P vs ms->MF w N P (.ref a) (.lst ms)
 | dct {a:Addr} {o:Obj} {pvs:List (Str×Value)} {kvs:List (Str×MV)}:(a,o)∈N->(a == sysModules)=false->o.IsDictOf (PySem.strKind PG w) pvs->AllK P pvs kvs->MF w N P (.ref a) (.dct kvs)
 | ict {a:Addr} {o:Obj} {pvs:List (Int×Value)} {kvs:List (Int×MV)}:(a,o)∈N->(a == sysModules)=false->o.IsDictOf (PySem.intKind PG w) pvs->AllK P pvs kvs->MF w N P (.ref a) (.ict kvs)
 | ptr (a:Addr):MF w N P (.ref a) (.ptr a)
 | inst {a dx:Addr} {C:Nat} {es:List DictEntry} {k:Nat} {fs:List (String×MV)}:(a,instObj C dx)∈N->(dx,dictOf es k)∈N->AllF w P es fs->MF w N P (.ref a) (.inst C fs)
noncomputable def MIn (w:World) (N:Lg) (v:Value) (m:MV):Prop:=∀P:Value->MV->Prop,(∀v m,MF w N P v m->P v m)->P v m
set_option genInjectivity true
noncomputable abbrev MAll (w:World) (N:Lg):List Value->List MV->Prop:=All2 (MIn w N)
noncomputable abbrev MKv (w:World) (N:Lg):List (Str×Value)->List (Str×MV)->Prop:=AllK (MIn w N)
noncomputable abbrev MIk (w:World) (N:Lg):List (Int×Value)->List (Int×MV)->Prop:=AllK (MIn w N)
noncomputable abbrev MFs (w:World) (N:Lg):List DictEntry->List (String×MV)->Prop:=AllF w (MIn w N)
section
variable {w:World} {N N':Lg}
theorem All2.imp {α β:Type} {R R':α->β->Prop} (hs:∀v m,R v m->R' v m) {vs:List α} {ms:List β} (h:All2 R vs ms):All2 R' vs ms:=by
 induction h with
 | nil=>exact .nil
 | cons a zz ih=>exact .cons (hs _ _ a) ih
theorem AllK.imp {κ α β:Type} {R R':α->β->Prop} (hs:∀v m,R v m->R' v m) {vs:List (κ×α)} {ms:List (κ×β)} (h:AllK R vs ms):AllK R' vs ms:=by
 induction h with
 | nil=>exact .nil
 | cons a zz ih=>exact .cons (hs _ _ a) ih
theorem AllF.imp {β:Type} {R R':Value->β->Prop} (hs:∀v m,R v m->R' v m) {vs:List DictEntry} {ms:List (String×β)} (h:AllF w R vs ms):AllF w R' vs ms:=by
 induction h with
 | nil=>exact .nil
 | cons a zz ih=>exact .cons (hs _ _ a) ih
theorem MF.imp {P P':Value->MV->Prop} (hs:∀p∈N,p∈N') (hp:∀v m,P v m->P' v m) {v:Value} {m:MV} (h:MF w N P v m):MF w N' P' v m:=by
 induction h with
 | none=>exact .none
 | bool b=>exact .bool b
 | int i t=>exact .int i t
 | str x t=>exact .str x t
 | tup a b=>exact .tup (hs _ a) (b.imp hp)
 | lst a b=>exact .lst (hs _ a) (b.imp hp)
 | dct a b c d=>exact .dct (hs _ a) b c (d.imp hp)
 | ict a b c d=>exact .ict (hs _ a) b c (d.imp hp)
 | ptr a=>exact .ptr a
 | inst a b c=>exact .inst (hs _ a) (hs _ b) (c.imp hp)
theorem MIn.fold {v:Value} {m:MV} (h:MF w N (MIn w N) v m):MIn w N v m:=λ P k=>k v m (h.imp (λ zz a=>a) λ zz zz q=>q P k)
theorem MIn.un {v:Value} {m:MV} (h:MIn w N v m):MF w N (MIn w N) v m:=h _ λ zz zz q=>q.imp (λ zz a=>a) λ zz zz=>MIn.fold
theorem MIn.none:MIn w N .none .none:=MIn.fold .none
theorem MIn.bool (b:Bool):MIn w N (.bool b) (.bool b):=MIn.fold (.bool b)
theorem MIn.int (i:Int) (t:Tok):MIn w N (.int i t) (.int i):=MIn.fold (.int i t)
theorem MIn.str (x:Str) (t:Tok):MIn w N (.str x t) (.str x):=MIn.fold (.str x t)
theorem MIn.tup {a:Addr} {vs:List Value} {k:Nat} {ms:List MV} (h:(a,tupO vs k)∈N) (q:All2 (MIn w N) vs ms):MIn w N (.ref a) (.tup ms):=MIn.fold (.tup h q)
theorem MIn.lst {a:Addr} {vs:List Value} {k:Nat} {ms:List MV} (h:(a,listOf vs.toArray k)∈N) (q:All2 (MIn w N) vs ms):MIn w N (.ref a) (.lst ms):=MIn.fold (.lst h q)
theorem MIn.dct {a:Addr} {o:Obj} {pvs:List (Str×Value)} {kvs:List (Str×MV)} (h:(a,o)∈N) (l:(a == sysModules)=false) (d:o.IsDictOf (PySem.strKind PG w) pvs) (q:AllK (MIn w N) pvs kvs):MIn w N (.ref a) (.dct kvs):=MIn.fold (.dct h l d q)
theorem MIn.ict {a:Addr} {o:Obj} {pvs:List (Int×Value)} {kvs:List (Int×MV)} (h:(a,o)∈N) (l:(a == sysModules)=false) (d:o.IsDictOf (PySem.intKind PG w) pvs) (q:AllK (MIn w N) pvs kvs):MIn w N (.ref a) (.ict kvs):=MIn.fold (.ict h l d q)
theorem MIn.ptr (a:Addr):MIn w N (.ref a) (.ptr a):=MIn.fold (.ptr a)
theorem MIn.inst {a dx:Addr} {C:Nat} {es:List DictEntry} {k:Nat} {fs:List (String×MV)} (h:(a,instObj C dx)∈N) (d:(dx,dictOf es k)∈N) (q:AllF w (MIn w N) es fs):MIn w N (.ref a) (.inst C fs):=MIn.fold (.inst h d q)
theorem MIn.mono (hs:∀p∈N,p∈N') {v:Value} {m:MV} (h:MIn w N v m):MIn w N' v m:=h _ λ zz zz q=>MIn.fold (q.imp hs λ zz zz a=>a)
theorem All2.mono (hs:∀p∈N,p∈N') {v:List Value} {m:List MV} (h:All2 (MIn w N) v m):All2 (MIn w N') v m:=h.imp λ zz zz=>MIn.mono hs
theorem AllK.mono (hs:∀p∈N,p∈N') {κ:Type} {v:List (κ×Value)} {m:List (κ×MV)} (h:AllK (MIn w N) v m):AllK (MIn w N') v m:=h.imp λ zz zz=>MIn.mono hs
theorem AllF.mono (hs:∀p∈N,p∈N') {v:List DictEntry} {m:List (String×MV)} (h:AllF w (MIn w N) v m):AllF w (MIn w N') v m:=h.imp λ zz zz=>MIn.mono hs
end
noncomputable def mGet {κ:Type} [DecidableEq κ] (kvs:List (κ×MV)) (k:κ):Option MV:=(kvs.find? λ kv=>kv.1=k).map (λ zz=>zz.2)
noncomputable def mPut {κ:Type} [DecidableEq κ] (kvs:List (κ×MV)) (k:κ) (v:MV):List (κ×MV) :=
 if kvs.any (λ kv=>kv.1=k) then kvs.map (λ kv=>if kv.1=k then (kv.1,v) else kv) else kvs++[(k,v)]
noncomputable def mPop {κ:Type} [DecidableEq κ] (kvs:List (κ×MV)) (k:κ):List (κ×MV):=kvs.filter λ kv=>decide (kv.1≠k)
section
variable {κ:Type} [DecidableEq κ] {R:Value->MV->Prop}
theorem AllK.get {pvs:List (κ×Value)} {kvs:List (κ×MV)} (h:AllK R pvs kvs) (x:κ) :
 (valueAt pvs x=none/\mGet kvs x=none)\/(∃v m,valueAt pvs x=some v/\mGet kvs x=some m/\R v m):=by
 induction h with
 | nil=>exact .inl ⟨rfl,rfl⟩
 | @cons y v m r q hv zz ih =>
  by_cases e:y=x
  · exact .inr ⟨v,m,by simp [valueAt,e],by simp [mGet,e],hv⟩
  · simpa [valueAt,mGet,e] using ih
theorem AllK.getS {pvs:List (κ×Value)} {kvs:List (κ×MV)} (h:AllK R pvs kvs) {x:κ} {m:MV} (e:mGet kvs x=some m):∃v,valueAt pvs x=some v/\R v m:=by
 rcases h.get x with ⟨_,q⟩ | ⟨v,m',h1,h2,h3⟩
 · rw [q] at e;f_shut e
 · rw [h2] at e;f_shut e;exact ⟨v,h1,h3⟩
theorem AllK.getN {pvs:List (κ×Value)} {kvs:List (κ×MV)} (h:AllK R pvs kvs) {x:κ} (e:mGet kvs x=none):valueAt pvs x=none:=by
 rcases h.get x with ⟨q,_⟩ | ⟨v,m',h1,h2,h3⟩
 · exact q
 · rw [h2] at e;f_shut e
omit [DecidableEq κ] in
theorem AllK.keys {pvs:List (κ×Value)} {kvs:List (κ×MV)} (h:AllK R pvs kvs):pvs.map (λ zz=>zz.1)=kvs.map (λ zz=>zz.1):=by
 induction h with
 | nil=>rfl
 | cons _ _ ih=>exact congrArg (_ :: ·) ih
omit [DecidableEq κ] in
theorem AllK.length {pvs:List (κ×Value)} {kvs:List (κ×MV)} (h:AllK R pvs kvs):pvs.length=kvs.length:=by
 induction h with
 | nil=>rfl
 | cons _ _ ih=>exact congrArg Nat.succ ih
theorem AllK.any {pvs:List (κ×Value)} {kvs:List (κ×MV)} (h:AllK R pvs kvs) (x:κ):(pvs.any λ kv=>kv.1=x)=kvs.any λ kv=>kv.1=x:=by
 induction h with
 | nil=>rfl
 | cons _ _ ih=>exact congrArg (_ || ·) ih
omit [DecidableEq κ] in
theorem AllK.append {p1 p2:List (κ×Value)} {k1 k2:List (κ×MV)} (h:AllK R p1 k1) (h2:AllK R p2 k2):AllK R (p1++p2) (k1++k2):=by
 induction h with
 | nil=>exact h2
 | cons a zz ih=>exact .cons a ih
set_option tactic.hygienic true in
theorem AllK.put {pvs:List (κ×Value)} {kvs:List (κ×MV)} (h:AllK R pvs kvs) {x:κ} {v:Value} {m:MV} (hv:R v m):AllK R (stored pvs x v) (mPut kvs x m):=by
 unfold stored mPut
 rw [h.any x]
 split
 · rename_i hz;clear hz
   induction h with
   | nil=>exact .nil
   | @cons y v' m' r q hv' _ ih =>
    rw [map_cons,map_cons]
    by_cases e:y=x
    · rw [if_pos e,if_pos e];exact .cons hv ih
    · rw [if_neg e,if_neg e];exact .cons hv' ih
 · exact h.append (.cons hv .nil)
theorem AllK.pop {pvs:List (κ×Value)} {kvs:List (κ×MV)} (h:AllK R pvs kvs) (x:κ):AllK R (pvs.filter λ kv=>decide (kv.1≠x)) (mPop kvs x):=by
 unfold mPop
 induction h with
 | nil=>exact .nil
 | @cons y v m r q hv zz ih =>
  rw [List.filter_cons,List.filter_cons]
  by_cases e:y=x
  · rw [if_neg (by simp [e]),if_neg (by simp [e])];exact ih
  · rw [if_pos (by simp [e]),if_pos (by simp [e])];exact .cons hv ih
end
section
variable {α β:Type} {R:α->β->Prop}
theorem All2.length {vs:List α} {ms:List β} (h:All2 R vs ms):vs.length=ms.length:=by
 induction h with
 | nil=>rfl
 | cons _ _ ih=>exact congrArg Nat.succ ih
theorem All2.append {v1 v2:List α} {m1 m2:List β} (h:All2 R v1 m1) (h2:All2 R v2 m2):All2 R (v1++v2) (m1++m2):=by
 induction h with
 | nil=>exact h2
 | cons a zz ih=>exact .cons a ih
theorem All2.at {vs:List α} {ms:List β} (h:All2 R vs ms) {i:Nat} {v:α} (e:vs[i]? = some v):∃m,ms[i]? = some m/\R v m:=by
 induction h generalizing i with
 | nil=>f_shut e
 | cons a zz ih =>
  induction i with
  | zero=>f_shut e;exact ⟨_,rfl,a⟩
  | succ i=>exact ih (i:=i) e
theorem All2.to {vs:List α} {ms:List β} (h:All2 R vs ms) {i:Nat} {m:β} (e:ms[i]? = some m):∃v,vs[i]? = some v/\R v m:=by
 induction h generalizing i with
 | nil=>f_shut e
 | cons a zz ih =>
  induction i with
  | zero=>f_shut e;exact ⟨_,rfl,a⟩
  | succ i=>exact ih (i:=i) e
noncomputable def All2.I (R:α->β->Prop) (vs:List α):List β->Prop
 | []=>vs=[]
 | m::ms=>∃v vs',vs=v::vs'/\R v m/\All2 R vs' ms
theorem All2.inv {vs:List α} {ms:List β} (h:All2 R vs ms):All2.I R vs ms:=by
 induction h with
 | nil=>exact rfl
 | cons a b zz=>exact ⟨_,_,rfl,a,b⟩
theorem All2.hd {v:α} {vs:List α} {m:β} {ms:List β} (h:All2 R (v::vs) (m::ms)):R v m:=E2_3 h.inv λ zz zz e p zz=>(List.cons.inj e).1 ▸ p
theorem All2.tl {v:α} {vs:List α} {m:β} {ms:List β} (h:All2 R (v::vs) (m::ms)):All2 R vs ms:=E2_3 h.inv λ zz zz e zz q=>(List.cons.inj e).2 ▸ q
@[elab_as_elim] theorem All2.nl {motive:List α->Prop} {ws:List α} (h:All2 R ws []) (k:motive []):motive ws:=(show ws=[] from h.inv) ▸ k
@[elab_as_elim] theorem All2.cn {motive:List α->Prop} {ws:List α} {m:β} {ms:List β} (h:All2 R ws (m::ms)) (k:∀v vs,R v m->All2 R vs ms->motive (v::vs)):motive ws:=E2_3 h.inv λ v vs e p q=>e ▸ k v vs p q
@[elab_as_elim] theorem All2.in1 {motive:List α->Prop} {ws:List α} {a:β} (h:All2 R ws [a]) (k:∀v,R v a->motive [v]):motive ws:=h.cn λ v zz p q=>q.nl (motive:=λ x=>motive (v::x)) (k v p)
@[elab_as_elim] theorem All2.in2 {motive:List α->Prop} {ws:List α} {a b:β} (h:All2 R ws [a,b]) (k:∀v u,R v a->R u b->motive [v,u]):motive ws:=h.cn λ v zz p q=>q.in1 (motive:=λ x=>motive (v::x)) λ u h3=>k v u p h3
end
section
variable {κ α β:Type} {R:α->β->Prop} {ps:List (κ×α)}
noncomputable def AllK.I (R:α->β->Prop) (ps:List (κ×α)):List (κ×β)->Prop
 | []=>ps=[]
 | p::q=>∃v r,ps=(p.1,v)::r/\R v p.2/\AllK R r q
theorem AllK.inv {kvs:List (κ×β)} (h:AllK R ps kvs):AllK.I R ps kvs:=by
 induction h with
 | nil=>exact rfl
 | cons a b zz=>exact ⟨_,_,rfl,a,b⟩
@[elab_as_elim] theorem AllK.nl {motive:List (κ×α)->Prop} (h:AllK R ps []) (k:motive []):motive ps:=(show ps=[] from h.inv) ▸ k
@[elab_as_elim] theorem AllK.cn {motive:List (κ×α)->Prop} {x:κ} {m:β} {q:List (κ×β)} (h:AllK R ps ((x,m)::q)) (k:∀v r,R v m->AllK R r q->motive ((x,v)::r)):motive ps:=E2_3 h.inv λ v r e a b=>e ▸ k v r a b
end
section
variable {w:World} {β:Type} {R:Value->β->Prop} {es:List DictEntry}
noncomputable def AllF.I (w:World) (R:Value->β->Prop) (es:List DictEntry):List (String×β)->Prop
 | []=>es=[]
 | p::q=>∃k v r,es=ent w p.1 k v::r/\R v p.2/\AllF w R r q
theorem AllF.inv {fs:List (String×β)} (h:AllF w R es fs):AllF.I w R es fs:=by
 induction h with
 | nil=>exact rfl
 | cons a b zz=>exact ⟨_,_,_,rfl,a,b⟩
@[elab_as_elim] theorem AllF.cn {motive:List DictEntry->Prop} {x:String} {m:β} {q:List (String×β)} (h:AllF w R es ((x,m)::q)) (k:∀t v r,R v m->AllF w R r q->motive (ent w x t v::r)):motive es:=E3_3 h.inv λ t v r e a b=>e ▸ k t v r a b
end
noncomputable def MInv (w:World) (N:Lg) (v:Value):MV->Prop
 | .none=>v = .none | .bool b=>v = .bool b | .int i=>∃t,v = .int i t | .str x=>∃t,v = .str x t | .ptr a=>v = .ref a
 | .tup ms=>∃a vs k,v = .ref a/\(a,tupO vs k)∈N/\MAll w N vs ms
 | .lst ms=>∃a vs k,v = .ref a/\(a,listOf vs.toArray k)∈N/\MAll w N vs ms
 | .dct kvs=>∃a o pvs,v = .ref a/\(a,o)∈N/\(a == sysModules)=false/\o.IsDictOf (PySem.strKind PG w) pvs/\MKv w N pvs kvs
 | .ict kvs=>∃a o pvs,v = .ref a/\(a,o)∈N/\(a == sysModules)=false/\o.IsDictOf (PySem.intKind PG w) pvs/\MIk w N pvs kvs
 | .inst C fs=>∃a dx es k,v = .ref a/\(a,instObj C dx)∈N/\(dx,dictOf es k)∈N/\MFs w N es fs
theorem MIn.inv {w:World} {N:Lg} {v:Value} {m:MV} (h:MIn w N v m):MInv w N v m:=by
 have q:=h.un
 clear h
 induction q with
 | none=>exact rfl
 | bool=>exact rfl
 | int i t=>exact ⟨t,rfl⟩
 | str i t=>exact ⟨t,rfl⟩
 | ptr=>exact rfl
 | tup a b=>exact ⟨_,_,_,rfl,a,b⟩
 | lst a b=>exact ⟨_,_,_,rfl,a,b⟩
 | dct a b c d=>exact ⟨_,_,_,rfl,a,b,c,d⟩
 | ict a b c d=>exact ⟨_,_,_,rfl,a,b,c,d⟩
 | inst a b c=>exact ⟨_,_,_,_,rfl,a,b,c⟩
section
variable {w:World} {N:Lg} {v:Value} {motive:Value->Prop}
theorem lst_open {ms:List MV} (h:MIn w N v (.lst ms)):∃a vs k,v = .ref a/\(a,listOf vs.toArray k)∈N/\MAll w N vs ms:=h.inv
theorem tup_open {ms:List MV} (h:MIn w N v (.tup ms)):∃a vs k,v = .ref a/\(a,tupO vs k)∈N/\MAll w N vs ms:=h.inv
@[elab_as_elim] theorem MIn.intE {i:Int} (h:MIn w N v (.int i)) (k:∀t,motive (.int i t)):motive v:=Exists.elim h.inv λ t e=>e ▸ k t
@[elab_as_elim] theorem MIn.strE {i:Str} (h:MIn w N v (.str i)) (k:∀t,motive (.str i t)):motive v:=Exists.elim h.inv λ t e=>e ▸ k t
@[elab_as_elim] theorem MIn.boolE {i:Bool} (h:MIn w N v (.bool i)) (k:motive (.bool i)):motive v:=(show v = .bool i from h.inv) ▸ k
@[elab_as_elim] theorem MIn.noneE (h:MIn w N v .none) (k:motive .none):motive v:=(show v = .none from h.inv) ▸ k
@[elab_as_elim] theorem MIn.ptrE {a:Addr} (h:MIn w N v (.ptr a)) (k:motive (.ref a)):motive v:=(show v = .ref a from h.inv) ▸ k
@[elab_as_elim] theorem ict_el {kvs:List (Int×MV)} (h:MIn w N v (.ict kvs)) (k:∀a o pvs,(a,o)∈N->(a == sysModules)=false->o.IsDictOf (PySem.intKind PG w) pvs->MIk w N pvs kvs->motive (.ref a)):motive v:=E3_5 h.inv λ a o pvs e p q r s=>e ▸ k a o pvs p q r s
@[elab_as_elim] theorem MIn.instE {C:Nat} {fs:List (String×MV)} (h:MIn w N v (.inst C fs)) (k:∀a dx es k,(a,instObj C dx)∈N->(dx,dictOf es k)∈N->MFs w N es fs->motive (.ref a)):motive v:=E4_4 h.inv λ a dx es n e p q r=>e ▸ k a dx es n p q r
@[elab_as_elim] theorem lst_el {ms:List MV} (h:MIn w N v (.lst ms)) (k:∀a vs k,(a,listOf vs.toArray k)∈N->MAll w N vs ms->motive (.ref a)):motive v:=E3_3 h.inv λ a vs n e p q=>e ▸ k a vs n p q
@[elab_as_elim] theorem tup_el {ms:List MV} (h:MIn w N v (.tup ms)) (k:∀a vs k,(a,tupO vs k)∈N->MAll w N vs ms->motive (.ref a)):motive v:=E3_3 h.inv λ a vs n e p q=>e ▸ k a vs n p q
@[elab_as_elim] theorem dct_el {kvs:List (Str×MV)} (h:MIn w N v (.dct kvs)) (k:∀a o pvs,(a,o)∈N->(a == sysModules)=false->o.IsDictOf (PySem.strKind PG w) pvs->MKv w N pvs kvs->motive (.ref a)):motive v:=E3_5 h.inv λ a o pvs e p q r s=>e ▸ k a o pvs p q r s
end
noncomputable abbrev mRef (n:Int):MV:=.inst 254 [("number",.int n),("generation",.int 0)]
noncomputable abbrev mName (s:Str):MV:=.inst 183 [("text",.str s)]
noncomputable abbrev mSpot (r:Int) (head:List (Str×MV)) (above:List Int) (inh:List (Str×MV)) (pg:Bool):MV :=
 .inst 409 [("reference",mRef r),("head",.dct head),("above",.tup (above.map mRef)),("inherited",.dct inh),("is_page",.bool pg)]
noncomputable abbrev mPage (r:Int) (fs:List (Str×MV)):MV:=.inst 388 [("reference",mRef r),("fields",.dct fs)]
section
variable {prog:Program} {w:World} {A:Around} {E:Value->Shared->Prop} {s:Shared} {env:Env} {h₀:Heap} {x:Str} {body:List Stmt} {Q:Flow->Shared->Prop}
theorem loop_range {r:Addr} {a₀ b₀:Int} {t₀ u₀ v₀:Tok} {m₀:Str->Option Value} {news:Lg} (n:Nat) (J:Nat->(Str->Option Value)->Lg->Prop)
 (hh:A.handled=none) (hr:IsRange s.heap r a₀ b₀ 1 t₀ u₀ v₀) (hsmall:Builtin.Range.small a₀ b₀ 1=true) (hsz:Builtin.Range.rangeSize a₀ b₀ 1=(n:Int)) (F:Fr h₀ env.locals s.heap m₀) (N:News h₀ env.locals s.heap news) (hj:J 0 m₀ news)
 (turn:∀i t m₁ nx h tk own,i < n->OwnOff own (nx.map (λ zz=>zz.1))->J i m₁ nx->Fr h₀ env.locals h (λ y=>if y=x then some (.int (a₀+i) t) else m₁ y)->News h₀ env.locals h (nx++own) ->
  wpAny (model prog w) A (execs body env) (InvPostG h₀ env.locals (J (i+1)) own {s with heap:=h,toks:=tk} Q) E {s with heap:=h,toks:=tk})
 (done:∀m₁ nx h tk,J n m₁ nx->Fr h₀ env.locals h m₁->News h₀ env.locals h nx->Q .next {s with heap:=h,toks:=tk}) :
 wpAny (model prog w) A (pyIter (.ref r)) (λ it s₂=>LoopAtV prog w A h₀ env x body Q E it s₂) E s:=by
 refine wpAny_pyIter_range hr hsmall ?_
 have W:Walks prog w A s.heap.objs.size [s.heap.objs.size] [s.heap.objs.size] n (λ i v=>i < n/\∃t,v = .int (a₀+i * 1) t)
  (λ i h=>IsRangeIter h s.heap.objs.size (a₀+(i:Nat) * 1) ((n:Int) - (i:Nat)) 1):=(Walks.range hh _ a₀ 1 n).bound
 refine kdr_loop J W (λ zz h=>h) (λ zz h=>h) ?_ ?_ ?_ ?_ (by show IsRangeIter _ _ _ _ _;rw [hsz];simpa using Heap.get?_push_size _ rfl) (F.push _) (λ p hp=>⟨Heap.get?_push_of_some _ (N p hp).1,(N p hp).2⟩) hj ?_ ?_
 · intro i h hi b hb
   rw [mem_singleton.mp hb]
   exact ⟨_,hi⟩
 · intro hm
   exact absurd F.ns.lt ((mem_singleton.mp hm) ▸ Nat.lt_irrefl _)
 · intro b hb
   rw [mem_singleton.mp hb]
   exact next_is_new F
 · intro p hp hI
   exact absurd (Heap.lt_size (N p hp).1) ((mem_singleton.mp hI) ▸ Nat.lt_irrefl _)
 · rintro i v m₁ nx h tk own hi ⟨_,t,rfl⟩ hoff hJ F₁ N₁
   have e1:a₀+(i:Int) * 1=a₀+(i:Int):=by simp+arith
   rw [e1] at F₁
   exact turn i t m₁ nx h tk own hi hoff hJ F₁ N₁
 · rintro m₁ nx h tk hJ F₁ N₁
   exact done m₁ nx h tk hJ F₁ N₁
end
theorem kitAt_D {h₀ h:Heap} {L d:Addr} {news:Lg} {o:Obj} {prog:Program} {w:World} {κ:Type} [DecidableEq κ] {knd:KeyKind prog w κ} {kvs:List (κ×Value)} (N:News h₀ L h news) (hm:(d,o)∈news) (hd:o.IsDictOf knd kvs):KitAt d "dict" h:=by
 refine E2_2 hd λ es ep hx zz=>?_;clear hd
 exact ⟨o,(N _ hm).1,hx.1⟩
theorem kitAt_S {h₀ h:Heap} {L d:Addr} {news:Lg} {o:Obj} {prog:Program} {w:World} {kvs:List (Str×Value)} (N:News h₀ L h news) (hm:(d,o)∈news) (hd:o.IsDictOf (PySem.strKind prog w) kvs):KitAt d "dict" h:=kitAt_D N hm hd
theorem kitAt_I {h₀ h:Heap} {L d:Addr} {news:Lg} {o:Obj} {prog:Program} {w:World} {kvs:List (Int×Value)} (N:News h₀ L h news) (hm:(d,o)∈news) (hd:o.IsDictOf (PySem.intKind prog w) kvs):KitAt d "dict" h:=kitAt_D N hm hd
noncomputable def Kd (w:World) (N:Lg) (v t:Value):Prop:=(∃H:Heap->Prop,KitX (HP w.params) v t H/\∀h₀ L h,News h₀ L h N->H h)/\v≠.builtin "__main__.__loader__#opaque"
theorem isi_kd {w:World} {N news:Lg} {v t c:Value} {A:Around} {E Q:Value->Shared->Prop} {s:Shared} {h₀:Heap} {L:Addr} {b:Bool} (X:(HP w.params).In s.heap) (N₁:News h₀ L s.heap news)
 (k:Kd w N v t) (hs:∀p∈N,p∈news) (e:kitOne (HP w.params) t c=some b) (h:∀tk,Q (.bool b) {s with toks:=tk}) :
 wpAny (model PySem.Challenge.rw_qz0082_01.row.prog w) A (call (.builtin "isinstance") [v,c]) Q E s:=by
 obtain ⟨⟨H,Z,hH⟩,hn⟩:=k
 exact kia_one Z X (hH _ _ _ λ p hp=>N₁ p (hs p hp)) e hn h
noncomputable def mType:MV->Value
 | .none=>.type "NoneType" | .bool _=>.type "bool" | .int _=>.type "int" | .str _=>.type "str"
 | .tup _=>.type "tuple" | .lst _=>.type "list" | .dct _=>.type "dict" | .ict _=>.type "dict" | .ptr _=>.none | .inst C _=>.ref C
noncomputable def OwnCls (w:World) (D:Addr):Prop:=plainGet (HP w.params) D (Str.ofString "__class__")=true/\hasDictIn (HP w.params) D=true/\findIn (HP w.params) (.ref D) (Str.ofString "__class__")=some (some (.builtin "object.__class__")) /\
 specialIn (HP w.params) (.builtin "object.__class__") "__get__"=some (some (.builtin "getset_descriptor.__get__"))/\takesIn (HP w.params) (.builtin "object.__class__")=some true/\mroIn (HP w.params) D (.type "object")=some true
theorem oc_ref (w:World):OwnCls w 254:=⟨by kernel_rfl,by kernel_rfl,by kernel_rfl,by kernel_rfl,by kernel_rfl,by kernel_rfl⟩
theorem oc_name (w:World):OwnCls w 183:=⟨by kernel_rfl,by kernel_rfl,by kernel_rfl,by kernel_rfl,by kernel_rfl,by kernel_rfl⟩
theorem MIn.kd {w:World} {N:Lg} {v:Value} {m:MV} (h:MIn w N v m) (hc:∀C fs,m = .inst C fs->OwnCls w C) (hp:∀a,m≠.ptr a):Kd w N v (mType m):=by
 have q:=h.un
 clear h
 induction q with
 | none=>exact ⟨⟨_,kitx_none,λ zz zz zz zz=>trivial⟩,by intro e;f_shut e⟩
 | bool b=>exact ⟨⟨_,kitx_bool,λ zz zz zz zz=>trivial⟩,by intro e;f_shut e⟩
 | int b=>exact ⟨⟨_,kitx_int,λ zz zz zz zz=>trivial⟩,by intro e;f_shut e⟩
 | str b=>exact ⟨⟨_,kitx_str,λ zz zz zz zz=>trivial⟩,by intro e;f_shut e⟩
 | tup hm zz=>exact ⟨⟨_,kitx_tuple,λ zz zz zz N=>⟨_,(N _ hm).1,rfl⟩⟩,by intro e;f_shut e⟩
 | lst hm zz=>exact ⟨⟨_,kitx_list,λ zz zz zz N=>⟨_,(N _ hm).1,rfl⟩⟩,by intro e;f_shut e⟩
 | dct hm _ hd _=>exact ⟨⟨_,kitx_dict,λ zz zz zz N=>kitAt_S N hm hd⟩,by intro e;f_shut e⟩
 | ict hm _ hd _=>exact ⟨⟨_,kitx_dict,λ zz zz zz N=>kitAt_I N hm hd⟩,by intro e;f_shut e⟩
 | ptr a=>exact absurd rfl (hp a)
 | inst h1 h2 h3 =>
  refine E0_6 (hc _ _ rfl) λ a1 a2 a3 a4 a5 a6=>?_
  exact ⟨⟨_,kitx_own a1 a2 a3 a4 a5 a6,λ zz zz zz N=>InstAt.of_news N h1 h2⟩,by intro e;f_shut e⟩
theorem find_map {α β:Type} (n:Int) (f:α->β) (l:List (Int×α)):((l.map λ p=>(p.1,f p.2)).find? λ kv=>kv.1=n).map (λ zz=>zz.2)=((l.find? λ p=>p.1=n).map (λ zz=>zz.2)).map f:=by
 induction l with
 | nil=>rfl
 | cons p r ih =>
  by_cases e:p.1=n
  · simp [e]
  · simpa [e] using ih
theorem mGet_map (n:Int) (f:List (Str×MV)->MV) (l:List (Int×List (Str×MV))):mGet (l.map λ p=>(p.1,f p.2)) n=((l.find? λ p=>p.1=n).map (λ zz=>zz.2)).map f:=find_map n f l
section
variable {prog:Program} {w:World} {A:Around} {E:Value->Shared->Prop} {s:Shared} {env:Env} {h₀:Heap} {x:Str} {body:List Stmt} {Q:Flow->Shared->Prop}
theorem loop_seq {I ax:Addr} {oax:Obj} {n:Nat} {P:Nat->Value->Prop} {St:Nat->Heap->Prop} {m₀:Str->Option Value} {news:Lg} (J:Nat->(Str->Option Value)->Lg->Prop)
 (W:Walks prog w A I [I,ax] [I] n P St) (hI:∀i h,St i h->∃o,h.get? I=some o) (hI0:h₀.get? I=none) (hIL:env.locals≠I) (haL:env.locals≠ax) (hst:St 0 s.heap)
 (F:Fr h₀ env.locals s.heap m₀) (N:News h₀ env.locals s.heap news) (offI:∀p∈news,p.1≠I) (hj:J 0 m₀ news)
 (keep:∀i m nx,J i m nx->(ax,oax)∈nx\/h₀.get? ax=some oax)
 (turn:∀i v m₁ nx h tk own,i < n->P i v->OwnOff own (nx.map (λ zz=>zz.1))->J i m₁ nx->Fr h₀ env.locals h (λ y=>if y=x then some v else m₁ y)->News h₀ env.locals h (nx++own) ->
  wpAny (model prog w) A (execs body env) (InvPostG h₀ env.locals (J (i+1)) own {s with heap:=h,toks:=tk} Q) E {s with heap:=h,toks:=tk})
 (done:∀m₁ nx h tk,J n m₁ nx->Fr h₀ env.locals h m₁->News h₀ env.locals h nx->Q .next {s with heap:=h,toks:=tk}) :
 LoopAtV prog w A h₀ env x body Q E (.ref I) s:=by
 refine ⟨I,[I,ax],[I],n,P,St,m₀,news,J,rfl,W,?_,?_,?_,hst,F,N,hj,?_,?_⟩
 · intro hm
   rcases mem_cons.mp hm with e | hm
   · exact hIL e
   · exact haL (mem_singleton.mp hm)
 · intro b hb
   rw [mem_singleton.mp hb];exact hI0
 · intro p hp hq
   exact offI p hp (mem_singleton.mp hq)
 · intro i v m₁ news₁ s₁ own hE3;refine E2_1 hE3 λ hh' tk' e3_2=>?_;clear hE3;subst e3_2;intro hin hP hJ hoff hown hget hfp hst' F₁ N₁
   obtain ⟨oI,hoI⟩:=hI _ _ hst'
   have hIown:(I,oI)∈own.filter λ p=>decide (p.1=I):=mem_filter.mpr ⟨hfp _ (mem_cons.mpr (.inl rfl)) hI0 _ hoI,by simp⟩
   have hsep:OwnOff (own.filter λ p=>decide (p.1=I)) (news₁.map (λ zz=>zz.1)):=by
    intro p hp b hb e
    refine E1_2 (mem_map.mp hb) λ q hq e4_2=>?_;subst e4_2
    have h1:p.1=I:=by simpa using (mem_filter.mp hp).2
    exact hoff q hq (mem_singleton.mpr (e ▸ h1))
   have N₂:News h₀ env.locals hh' (news₁++own.filter λ p=>decide (p.1=I)):=λ p hp=>N₁ p ((mem_append.mp hp).elim (λ h=>mem_append.mpr (.inr h)) λ h=>mem_append.mpr (.inl ((mem_filter.mp h).1)))
   refine wpAny_mono (turn i v m₁ news₁ hh' tk' _ hin hP hsep hJ F₁ N₂) (λ f s₂ p=>?_) λ zz zz e=>e
   have fin:InvEndG h₀ env.locals (J (i+1)) (own.filter λ p=>decide (p.1=I)) {s with heap:=hh',toks:=tk'} s₂ ->
    LoopStepU h₀ env.locals [I] own (J (i+1)) {s with heap:=hh',toks:=tk'} .next s₂:=by
    intro hE5;refine E5_7 hE5 λ h' tk m' news' nx e F' N' hn ho ha hm=>?_;clear hE5
    refine ⟨rfl,h',tk,m',nx,e,F',λ p hp=>?_,λ p hp hq=>?_,hm⟩
    · rcases mem_append.mp hp with h | h
      · by_cases hI':p.1=I
        · exact N' p (ho p (mem_filter.mpr ⟨h,by simpa using hI'⟩))
        · have h1:p.1=ax:=by
           rcases mem_cons.mp (hown p h) with h2 | h2
           · exact absurd h2 hI'
           · exact mem_singleton.mp h2
          have h2:hh'.get? p.1=some p.2:=hget p h
          rcases keep _ _ _ hJ with k | k
          · have hlo:hh'.get? ax=some oax:=(N₁ _ (mem_append.mpr (.inr k))).1
            rw [h1,hlo] at h2
            have h3:p=(ax,oax):=Prod.ext h1 (Option.some.inj h2).symm
            rcases keep _ _ _ hm with k' | k'
            · rw [h3];exact N' _ (hn _ k')
            · have:=(N₁ _ (mem_append.mpr (.inr k))).2.2
              rw [k'] at this;f_shut this
          · have:=(N₁ p (mem_append.mpr (.inl h))).2.2
            rw [h1,k] at this;f_shut this
      · exact N' p (hn p h)
    · exact ha _ hIown p.1 (mem_map.mpr ⟨p,hp,rfl⟩) (mem_singleton.mp hq).symm
   induction f with
   | ret v=>exact .ret p
   | brk=>exact .brk p
   | next=>exact .next (fin p)
   | cont=>exact .cont (fin p)
 · rintro h' tk m' news' F' N' _ hJ
   exact done m' news' h' tk hJ F' N'
theorem loop_list {l:Addr} {vs:List Value} {k:Nat} {m₀:Str->Option Value} {news:Lg} (J:Nat->(Str->Option Value)->Lg->Prop)
 (hh:A.handled=none) (hl:(l,listOf vs.toArray k)∈news) (F:Fr h₀ env.locals s.heap m₀) (N:News h₀ env.locals s.heap news) (hj:J 0 m₀ news)
 (keep:∀i m nx,J i m nx->(l,listOf vs.toArray k)∈nx)
 (turn:∀i v m₁ nx h tk own,vs[i]? = some v->OwnOff own (nx.map (λ zz=>zz.1))->J i m₁ nx->Fr h₀ env.locals h (λ y=>if y=x then some v else m₁ y)->News h₀ env.locals h (nx++own) ->
  wpAny (model prog w) A (execs body env) (InvPostG h₀ env.locals (J (i+1)) own {s with heap:=h,toks:=tk} Q) E {s with heap:=h,toks:=tk})
 (done:∀m₁ nx h tk,J vs.length m₁ nx->Fr h₀ env.locals h m₁->News h₀ env.locals h nx->Q .next {s with heap:=h,toks:=tk}) :
 wpAny (model prog w) A (pyIter (.ref l)) (λ it s₂=>LoopAtV prog w A h₀ env x body Q E it s₂) E s:=by
 have hol:s.heap.get? l=some (listOf vs.toArray k):=(N _ hl).1
 have hls:s.heap.IsList l vs.toArray:=⟨_,hol,rfl,k,rfl⟩
 have hne:l≠s.heap.objs.size:=Nat.ne_of_lt (Heap.lt_size hol)
 refine wpAny_pyIter_list hls ?_
 have W:=Walks.list (prog:=prog) (w:=w) hh s.heap.objs.size l hne vs.toArray
 have hlen:vs.toArray.size=vs.length:=by trivial
 rw [hlen] at W
 refine loop_seq J W (λ i h st=>let ⟨o,ho,_⟩:=st.1;⟨o,ho⟩) (next_is_new F) (Nat.ne_of_lt F.ns.lt) (Ne.symm (N _ hl).2.1) ⟨⟨_,Heap.get?_push_size _ rfl,rfl,rfl⟩,hls.at λ o e=>Heap.get?_push_of_some _ e⟩ (F.push _)
  (λ p hp=>⟨Heap.get?_push_of_some _ (N p hp).1,(N p hp).2⟩) (λ p hp=>Nat.ne_of_lt (Heap.lt_size (N p hp).1)) hj (λ i m nx h=>.inl (keep i m nx h)) ?_ done
 intro i v m₁ nx h tk own hi hP ho hJ F₁ N₁
 exact turn i v m₁ nx h tk own (by simpa using hP) ho hJ F₁ N₁
theorem loop_tuple {l:Addr} {vs:List Value} {oax:Obj} {k:Nat} {m₀:Str->Option Value} {news:Lg} (J:Nat->(Str->Option Value)->Lg->Prop)
 (hh:A.handled=none) (ho:oax.cls = .type "tuple") (hd:oax.data = .seq vs.toArray k) (F:Fr h₀ env.locals s.heap m₀) (N:News h₀ env.locals s.heap news) (hj:J 0 m₀ news)
 (keep:∀i m nx,J i m nx->(l,oax)∈nx\/h₀.get? l=some oax)
 (turn:∀i v m₁ nx h tk own,vs[i]? = some v->OwnOff own (nx.map (λ zz=>zz.1))->J i m₁ nx->Fr h₀ env.locals h (λ y=>if y=x then some v else m₁ y)->News h₀ env.locals h (nx++own) ->
  wpAny (model prog w) A (execs body env) (InvPostG h₀ env.locals (J (i+1)) own {s with heap:=h,toks:=tk} Q) E {s with heap:=h,toks:=tk})
 (done:∀m₁ nx h tk,J vs.length m₁ nx->Fr h₀ env.locals h m₁->News h₀ env.locals h nx->Q .next {s with heap:=h,toks:=tk}) :
 wpAny (model prog w) A (pyIter (.ref l)) (λ it s₂=>LoopAtV prog w A h₀ env x body Q E it s₂) E s:=by
 have hol:s.heap.get? l=some oax:=(keep _ _ _ hj).elim (λ h=>(N _ h).1) λ h=>F.keep _ _ h
 have hls:s.heap.IsTuple l vs.toArray:=⟨_,hol,ho,k,hd⟩
 have hne:l≠s.heap.objs.size:=Nat.ne_of_lt (Heap.lt_size hol)
 have hlL:env.locals≠l:=(keep _ _ _ hj).elim (λ h=>Ne.symm (N _ h).2.1) λ h=>Ne.symm (Nat.ne_of_lt (Nat.lt_of_lt_of_le (Heap.lt_size h) F.above))
 refine wpAny_pyIter_tuple hls ?_
 have W:=Walks.tuple (prog:=prog) (w:=w) hh s.heap.objs.size l hne vs.toArray
 have hlen:vs.toArray.size=vs.length:=by trivial
 rw [hlen] at W
 refine loop_seq J W (λ i h st=>let ⟨o,ho,_⟩:=st.1;⟨o,ho⟩) (next_is_new F) (Nat.ne_of_lt F.ns.lt) hlL ⟨⟨_,Heap.get?_push_size _ rfl,rfl,rfl⟩,hls.at λ o e=>Heap.get?_push_of_some _ e⟩ (F.push _)
  (λ p hp=>⟨Heap.get?_push_of_some _ (N p hp).1,(N p hp).2⟩) (λ p hp=>Nat.ne_of_lt (Heap.lt_size (N p hp).1)) hj keep ?_ done
 intro i v m₁ nx h tk own hi hP ho hJ F₁ N₁
 exact turn i v m₁ nx h tk own (by simpa using hP) ho hJ F₁ N₁
theorem loop_keys {l:Addr} {o:Obj} {kvs:List (Str×Value)} {m₀:Str->Option Value} {news:Lg} (J:Nat->(Str->Option Value)->Lg->Prop)
 (hh:A.handled=none) (hl:(l,o)∈news) (lo:(l == sysModules)=false) (hd:o.IsDictOf (PySem.strKind prog w) kvs) (F:Fr h₀ env.locals s.heap m₀) (N:News h₀ env.locals s.heap news) (hj:J 0 m₀ news)
 (keep:∀i m nx,J i m nx->(l,o)∈nx)
 (turn:∀i y t v m₁ nx h tk own,kvs[i]? = some (y,v)->OwnOff own (nx.map (λ zz=>zz.1))->J i m₁ nx->Fr h₀ env.locals h (λ z=>if z=x then some (.str y t) else m₁ z)->News h₀ env.locals h (nx++own) ->
  wpAny (model prog w) A (execs body env) (InvPostG h₀ env.locals (J (i+1)) own {s with heap:=h,toks:=tk} Q) E {s with heap:=h,toks:=tk})
 (done:∀m₁ nx h tk,J kvs.length m₁ nx->Fr h₀ env.locals h m₁->News h₀ env.locals h nx->Q .next {s with heap:=h,toks:=tk}) :
 wpAny (model prog w) A (pyIter (.ref l)) (λ it s₂=>LoopAtV prog w A h₀ env x body Q E it s₂) E s:=by
 obtain ⟨ep,ha⟩:=KdkAt.of hd
 have hol:s.heap.get? l=some o:=(N _ hl).1
 have hda:=ha.dictAt hol
 have hne:l≠s.heap.objs.size:=Nat.ne_of_lt (Heap.lt_size hol)
 refine wpAny_pyIter_dict lo hda ?_
 have W:=Walks.dictKeys (prog:=prog) (w:=w) (knd:=PySem.strKind prog w) hh s.heap.objs.size l hne kvs ep
 refine loop_seq J W (λ i h st=>let ⟨o,ho,_⟩:=st.1;⟨o,ho⟩) (next_is_new F) (Nat.ne_of_lt F.ns.lt) (Ne.symm (N _ hl).2.1) ⟨⟨_,Heap.get?_push_size _ rfl,rfl,rfl⟩,hda.at' λ o e=>Heap.get?_push_of_some _ e⟩ (F.push _)
  (λ p hp=>⟨Heap.get?_push_of_some _ (N p hp).1,(N p hp).2⟩) (λ p hp=>Nat.ne_of_lt (Heap.lt_size (N p hp).1)) hj (λ i m nx h=>.inl (keep i m nx h)) ?_ done
 intro i v m₁ nx h tk own hi hE6;refine E2_2 hE6 λ k v' hkv hk=>?_;clear hE6;intro ho hJ F₁ N₁
 obtain ⟨t,rfl⟩:=Value.isStrOf_shape (show Value.isStrOf k v=true from hk)
 exact turn i k t v' m₁ nx h tk own hkv ho hJ F₁ N₁
end
section
variable {prog:Program} {w:World} {A:Around} {E:Value->Shared->Prop} {s:Shared} {h₀:Heap} {L d:Addr} {m:Str->Option Value} {news:Lg} {o:Obj} {Q:Value->Shared->Prop}
theorem dictCopyL {kvs:List (Str×Value)} (F:Fr h₀ L s.heap m) (N:News h₀ L s.heap news) (hbig:h₀.NoLimit) (hm:(d,o)∈news) (lo:(d == sysModules)=false) (hd:o.IsDictOf (PySem.strKind prog w) kvs) (hz:kvs.length<=1000)
 (h:∀D h' o',Fr h₀ L h' m->News h₀ L h' ((D,o')::news)->(∀p∈news,p.1 < D)->(D == sysModules)=false->o'.IsDictOf (PySem.strKind prog w) kvs->Q (.ref D) {s with heap:=h'}) :
 wpAny (model prog w) A (call (.type "dict") [.ref d]) Q E s:=by
 refine kt_call_dict (knd:=PySem.strKind prog w) lo (kda_dict N hm hd) (Nat.le_trans hz (by decide)) λ h' hd' hs=>?_
 refine E1_2 (Heap.dictOf_iff.mp hd') λ o' ho' hdo=>?_
 have N1:=News.push F N {cls:=.type "dict",data:=.dict #[]} rfl
 have F1:=F.push {cls:=.type "dict",data:=.dict #[]}
 have hself:=N1 _ (.head _)
 refine h _ h' o' (F1.change hs hself.2.1 hself.2.2) (λ p hp=>?_) (λ p hp=>Heap.lt_size (N p hp).1) (F.notModules (modules_low hbig)) hdo
 rcases mem_cons.mp hp with rfl | hp
 · exact ⟨ho',hself.2.1,hself.2.2⟩
 · have q:=N1 p (.tail _ hp)
   exact ⟨(hs.2 p.1 (Nat.ne_of_lt (Heap.lt_size (N p hp).1))).trans q.1,q.2⟩
theorem popMethodL {kvs:List (Str×Value)} {pl:Sem Bool} {Q:Value×List Value->Shared->Prop} (N:News h₀ L s.heap news) (hp:(d,o)∈news) (hd:o.IsDictOf (PySem.strKind prog w) kvs) (h:Q (.builtin "dict.pop",[.ref d]) s):wpAny (model prog w) A (getMethod (.ref d) "pop" pl) Q E s :=
 have hD:=kda_dict N hp hd
 getMethod_builtin hD.typeIs PySem.F.plainAttrs_dict PySem.F.slot_dict_pop PySem.F.type_dict_pop hD.mapOf.noDict h
theorem popL {kvs:List (Str×Value)} {g:Obj->Lg} {x:Str} {t:Tok} {dflt:Value} (F:Fr h₀ L s.heap m) (N:News h₀ L s.heap news) (lo:(d == sysModules)=false) (U:UpdF d o news g) (hd:o.IsDictOf (PySem.strKind prog w) kvs) (hz:kvs.length<=1000)
 (h:∀h' o',Fr h₀ L h' m->News h₀ L h' (g o')->o'.IsDictOf (PySem.strKind prog w) (without kvs x)->Q ((valueAt kvs x).getD dflt) {s with heap:=h',toks:=s.toks+1}) :
 wpAny (model prog w) A (call (.builtin "dict.pop") [.ref d,.str x t,dflt]) Q E s:=by
 refine E2_4 (U.split) λ pre post e8_2 hg a b=>?_;subst e8_2
 have hm:=N (d,o) (mem_append_right _ (.head _))
 have hD:s.heap.DictOf (PySem.strKind prog w) d kvs:=Heap.dictOf_iff.mpr ⟨o,hm.1,hd⟩
 cases hv:valueAt kvs x with
 | none =>
  refine call_meetsIn PySem.F.slot_dict_pop hD.typeIs PySem.F.entry_dict_pop (PySem.F.args_dict_pop_3 _ _ _) (meets_dict_pop_default (PySem.strKind prog w) d (strKind_is _ _ _ _) lo rfl dflt) ⟨kvs,hD,hv,?_⟩
  have e:without kvs x=kvs:=without_of_not_mem kvs x λ hmem=>by
   refine E1_2 (mem_map.mp hmem) λ p hp hpx=>?_
   have:valueAt kvs x≠none:=by
    unfold valueAt
    intro hn
    have:=List.find?_eq_none.mp (Option.map_eq_none_iff.mp hn) p hp
    simp [hpx] at this
   exact this hv
  have q:=h s.heap o F (by rw [hg];exact N) (by rw [e];exact hd)
  rw [hv] at q
  exact q
 | some v =>
  refine call_meetsIn PySem.F.slot_dict_pop hD.typeIs PySem.F.entry_dict_pop (PySem.F.args_dict_pop_3 _ _ _) (meets_dict_pop_there (PySem.strKind prog w) d (strKind_is _ _ _ _) [dflt] (.inr ⟨_,rfl⟩) rfl)
   ⟨kvs,v,hD,Nat.le_trans hz (by decide),hv,λ h' hd' hs=>?_⟩
  refine E1_2 (Heap.dictOf_iff.mp hd') λ o' ho' hdo=>?_
  have q:=h h' o' (F.change hs hm.2.1 hm.2.2) (hg o' ▸ N.setIn a b hs ho') hdo
  rw [hv] at q
  exact q
end
section
variable {w:World} {N:Lg}
theorem AllK.at {pvs:List (Str×Value)} {kvs:List (Str×MV)} (h:MKv w N pvs kvs) {i:Nat} {y:Str} {v:Value} (e:pvs[i]? = some (y,v)):∃m,kvs[i]? = some (y,m)/\MIn w N v m:=by
 induction pvs generalizing kvs i with
 | nil=>f_shut e
 | cons p r ih =>
  cases h with
  | cons hv hr =>
   induction i with
   | zero=>f_shut e;exact ⟨_,rfl,hv⟩
   | succ i=>exact ih hr (by simpa using e)
theorem MIn.isNone {v:Value} {m:MV} (h:MIn w N v m):(v = .none/\m = .none)\/(v≠.none/\m≠.none):=by
 have q:=h.un
 clear h
 induction q <;> first | exact .inl ⟨rfl,rfl⟩ | exact .inr ⟨(by intro e;f_shut e),by intro e;f_shut e⟩
end
theorem mPut_len {kvs:List (Str×MV)} {x:Str} {v:MV}:(mPut kvs x v).length<=kvs.length+1:=by
 unfold mPut;split <;> simp
theorem mPop_len {kvs:List (Str×MV)} {x:Str}:(mPop kvs x).length<=kvs.length:=List.length_filter_le _ _
noncomputable def turn1 (f:List (Str×MV)) (p:Str×MV):List (Str×MV):=match p.2 with | .none=>mPop f p.1 | v=>mPut f p.1 v
theorem turn1_some (f:List (Str×MV)) (x:Str) {v:MV} (h:v≠.none):turn1 f (x,v)=mPut f x v:=by unfold turn1;cases v <;> first | rfl | exact absurd rfl h
theorem turn1_len (f:List (Str×MV)) (p:Str×MV):(turn1 f p).length<=f.length+1:=by
 unfold turn1;split
 · exact Nat.le_succ_of_le mPop_len
 · exact mPut_len
noncomputable def turnedF (head changes:List (Str×MV)):List (Str×MV):=changes.foldl turn1 head
theorem turnedF_len:∀ (c h:List (Str×MV)),(turnedF h c).length<=h.length+c.length
 | [],_=>Nat.le_refl _
 | p::r,h=>by
  have:=turnedF_len r (turn1 h p)
  have q:=turn1_len h p
  show (turnedF (turn1 h p) r).length<=_
  rw [length_cons];lia
theorem foldl_take_succ {α β:Type} (f:β->α->β) (b:β) (l:List α) (i:Nat) (x:α) (h:l[i]? = some x):(l.take (i+1)).foldl f b=f ((l.take i).foldl f b) x:=by
 rw [List.take_add_one,h];simp
section
variable {prog:Program} {w:World} {A:Around} {E:Value->Shared->Prop} {s:Shared} {env:Env} {h₀:Heap} {x:Str} {body:List Stmt} {Q:Flow->Shared->Prop}
theorem loop_rev {l I:Addr} {vs:List Value} {k:Nat} {m₀:Str->Option Value} {news nw:Lg} (J:Nat->(Str->Option Value)->Lg->Prop)
 (hh:A.handled=none) (hI:(I,revObj l ((vs.length:Int) - 1))∈nw) (hl:(l,listOf vs.toArray k)∈news) (F:Fr h₀ env.locals s.heap m₀) (N0:News h₀ env.locals s.heap nw) (hsub:∀p∈news,p∈nw) (offI:∀p∈news,p.1 < I) (hj:J 0 m₀ news)
 (keep:∀i m nx,J i m nx->(l,listOf vs.toArray k)∈nx)
 (turn:∀i v m₁ nx h tk own,vs.reverse[i]? = some v->OwnOff own (nx.map (λ zz=>zz.1))->J i m₁ nx->Fr h₀ env.locals h (λ y=>if y=x then some v else m₁ y)->News h₀ env.locals h (nx++own) ->
  wpAny (model prog w) A (execs body env) (InvPostG h₀ env.locals (J (i+1)) own {s with heap:=h,toks:=tk} Q) E {s with heap:=h,toks:=tk})
 (done:∀m₁ nx h tk,J vs.length m₁ nx->Fr h₀ env.locals h m₁->News h₀ env.locals h nx->Q .next {s with heap:=h,toks:=tk}) :
 wpAny (model prog w) A (pyIter (.ref I)) (λ it s₂=>LoopAtV prog w A h₀ env x body Q E it s₂) E s:=by
 have N:News h₀ env.locals s.heap news:=λ p hp=>N0 p (hsub p hp)
 have hIx:=N0 _ hI
 have hol:s.heap.get? l=some (listOf vs.toArray k):=(N _ hl).1
 have hls:s.heap.IsList l vs.toArray:=⟨_,hol,rfl,k,rfl⟩
 have hne:l≠I:=Nat.ne_of_lt (offI _ hl)
 have hit:s.heap.IsRevIter I l ((vs.length:Int) - 1):=⟨_,hIx.1,rfl,rfl⟩
 refine wpAny_pyIter_revIter hit ?_
 have W:=Walks.listRev (prog:=prog) (w:=w) hh I l hne vs.toArray
 have hlen:vs.toArray.size=vs.length:=by trivial
 rw [hlen] at W
 refine loop_seq J W (λ i h st=>let ⟨o,ho,_⟩:=st.2.1;⟨o,ho⟩) hIx.2.2 (Ne.symm hIx.2.1) (Ne.symm (N _ hl).2.1) ⟨Nat.zero_le _,by simpa using hit,hls⟩ F
  N (λ p hp=>Nat.ne_of_lt (offI p hp)) hj (λ i m nx h=>.inl (keep i m nx h)) ?_ done
 intro i v m₁ nx h tk own hi hP ho hJ F₁ N₁
 refine turn i v m₁ nx h tk own ?_ ho hJ F₁ N₁
 rw [List.getElem?_reverse hi]
 simpa using hP
end
theorem kl_last_snoc:∀ (p:List Value) (y:Value),kl_last (p++[y])=some (p,y)
 | [],_=>rfl
 | x::r,y=>by rw [cons_append,kl_last,kl_last_snoc r y]
section
variable {prog:Program} {w:World} {A:Around} {E:Value->Shared->Prop} {s:Shared} {h₀:Heap} {L D:Addr} {m:Str->Option Value} {news news':Lg} {n:Nat}
theorem popLast {p:List Value} {y:Value} {Q:Value->Shared->Prop} (F:Fr h₀ L s.heap m) (N:News h₀ L s.heap news) (U:Upd D (listOf (p++[y]).toArray n) (listOf p.toArray (n+1)) news news')
 (hz:p.length<=1000) (h:∀h',Fr h₀ L h' m->News h₀ L h' news'->Q y {s with heap:=h'}):wpAny (model prog w) A (call (.builtin "list.pop") [.ref D]) Q E s :=
 kl_pop F N (its:=(p++[y]).toArray) (by simpa using kl_last_snoc p y) U (by simp only [length_append,length_cons,length_nil];exact Nat.le_trans (Nat.succ_le_succ hz) (by decide)) h
theorem pushLast {vs:List Value} {x:Value} {Q:Value->Shared->Prop} (F:Fr h₀ L s.heap m) (N:News h₀ L s.heap news) (U:Upd D (listOf vs.toArray n) (listOf (vs++[x]).toArray (n+1)) news news')
 (hz:vs.length<=1000) (h:∀h',Fr h₀ L h' m->News h₀ L h' news'->Q .none {s with heap:=h'}):wpAny (model prog w) A (call (.builtin "list.append") [.ref D,x]) Q E s:=by
 have e:(vs++[x]).toArray=vs.toArray.push x:=by simp
 rw [e] at U
 exact append_K F N U h (by rw [List.size_toArray];exact Nat.le_trans hz (by decide))
theorem truthyL {vs:List Value} {b:Bool} {Q:Bool->Shared->Prop} (N:News h₀ L s.heap news) (hm:(D,listOf vs.toArray n)∈news) (hz:vs.length<=1000) (hb:(!vs.isEmpty)=b)
 (h:Q b {s with toks:=s.toks+1+1}):wpAny (model prog w) A (truthy (.ref D)) Q E s :=
 kgr_truthy N hm rfl rfl (Nat.lt_of_le_of_lt hz (by decide)) (by rw [hb];exact h)
theorem eqNilL {vs:List Value} {d:Addr} {k:Nat} {b:Bool} {Q:Value->Shared->Prop} (N:News h₀ L s.heap news) (hm:(D,listOf vs.toArray n)∈news) (hd:(d,listOf #[] k)∈news) (hu:A.units < cLine) (hb:vs.isEmpty=b)
 (h:Q (.bool b) s):wpAny (model prog w) A (compareOp .Eq (.ref D) (.ref d)) Q E s:=by
 have h1:s.heap.IsList D vs.toArray:=⟨_,(N _ hm).1,rfl,n,rfl⟩
 have h2:s.heap.IsList d #[]:=⟨_,(N _ hd).1,rfl,k,rfl⟩
 cases vs with
 | nil=>subst hb;exact SeqAt.eq_listAt (e:=λ zz=>true) h1 h2 rfl hu (λ j h zz=>absurd h (by simp)) h
 | cons x r=>subst hb;exact SeqAt.eq_list_lengthsAt h1 h2 (by trivial) hu h
theorem addTupL {vs ws:List Value} {t b:Addr} {k k2:Nat} {Q:Value->Shared->Prop} (F:Fr h₀ L s.heap m) (N:News h₀ L s.heap news) (ht:(t,tupO vs k)∈news) (hb:(b,tupO ws k2)∈news) (hw:ws≠[]) (hz:vs.length+ws.length<=1000)
 (h:∀D h' X k',Fr h₀ L h' m->News h₀ L h' (news++X)->(∀q∈news,∀p∈X,q.1≠p.1)->(D,tupO (vs++ws) k')∈(b,tupO ws k2)::X->Q (.ref D) {s with heap:=h'}) :
 wpAny (model prog w) A (binaryOp .Add (.ref t) (.ref b)) Q E s:=by
 have h1:IsTup s.heap t vs.toArray:=⟨_,(N _ ht).1,rfl,k,rfl⟩
 have h2:IsTup s.heap b ws.toArray:=⟨_,(N _ hb).1,rfl,k2,rfl⟩
 have hz':vs.toArray.toList.length+ws.toArray.toList.length<=16384:=by simpa using Nat.le_trans hz (by decide)
 by_cases e:vs=[]
 · subst e
   exact kde_addT0 F N h1 h2 rfl hz' (h b s.heap [] k2 F (by rw [append_nil];exact N) (λ zz zz zz hp=>nomatch hp) (.head _))
 · refine kde_addT (zs:=vs++ws) F N h1 h2 (by trivial) (by trivial) hz' (by simp) λ D h' F' N' l1=>?_
   refine h D h' [(D,tupO (vs++ws) 0)] 0 F' (λ p hp=>?_) (λ q hq p hp=>by rw [mem_singleton.mp hp];exact Nat.ne_of_lt (l1 q hq)) (.tail _ (.head _))
   rcases mem_append.mp hp with hp | hp
   · exact N' p (.tail _ hp)
   · rw [mem_singleton.mp hp];exact N' _ (.head _)
end
theorem News.sub {h₀ h:Heap} {L:Addr} {news news':Lg} (N:News h₀ L h news) (hs:∀p∈news',p∈news):News h₀ L h news':=λ p hp=>N p (hs p hp)
theorem reversedL {prog:Program} {w:World} {A:Around} {E:Value->Shared->Prop} {s:Shared} {h₀:Heap} {L:Addr} {m:Str->Option Value} {l:Addr} {vs:List Value} {k:Nat} {news:Lg} {Q:Value->Shared->Prop} (F:Fr h₀ L s.heap m) (N:News h₀ L s.heap news) (hm:(l,listOf vs.toArray k)∈news)
 (h:∀D h',Fr h₀ L h' m->News h₀ L h' ((D,revObj l ((vs.length:Int) - 1))::news)->(∀p∈news,p.1 < D)->Q (.ref D) {s with heap:=h'}):wpAny (model prog w) A (call (.type "reversed") [.ref l]) Q E s :=
 krv_reversed F N ⟨_,(N _ hm).1,rfl,_,rfl⟩ h
theorem All2.reverse {w:World} {N:Lg} {vs:List Value} {ms:List MV} (h:MAll w N vs ms):MAll w N vs.reverse ms.reverse:=by
 induction vs generalizing ms with
 | nil=>cases h;exact .nil
 | cons v r ih=>cases h with | cons hv hr=>rw [List.reverse_cons,List.reverse_cons];exact (ih hr).append (.cons hv .nil)
section
variable {own A B C:Lg} {a:Addr} {o:Obj}
end
section
variable {prog:Program} {w:World} {A:Around} {E:Value->Shared->Prop} {s:Shared} {h₀:Heap} {L:Addr} {m:Str->Option Value} {env:Env}
theorem comp_inv {elt:Expr} {x:Str} {scope:Scope} {cl:List (Str×Addr)} {S:Lg->Prop} {P:Nat->Value->Prop} {Fin:List Value->Lg->Prop} {n:Nat} {news:Lg} (J:Nat->List Value->Lg->Prop) (hj:J 0 [] news)
 (turn:∀i v ys nx I oI C oC D m₂ h tk (E':Value->Shared->Prop),i < n->P i v->J i ys nx->LCg.NsObj oC m₂->m₂ x=some v->Fr h₀ L h m->News h₀ L h ((I,oI)::(C,oC)::(D,LCg.lst ys)::nx)->(∀p∈nx,p.1≠I)->(∀p∈nx,p.1≠C)->(∀p∈nx,p.1≠D)->I≠C->I≠D->C≠D ->
  wpAny (model prog w) A (eval elt (compEnvC scope cl C env)) (LCg.CompEnd h₀ L m {s with heap:=h,toks:=tk} I oI C oC D (LCg.lst ys) S (λ y nx'=>J (i+1) (ys++[y]) nx')) E' {s with heap:=h,toks:=tk})
 (done:∀ys nx,J n ys nx->Fin ys nx):LCg.CompRest prog w A h₀ L m env elt x scope cl s S P Fin n 0 [] news:=by
 have key:∀k i ys nx,i+k=n->J i ys nx->LCg.CompRest prog w A h₀ L m env elt x scope cl s S P Fin k i ys nx:=by
  intro k
  induction k with
  | zero=>intro i ys nx e h;exact LCg.CompRest.zero (done _ _ (by rw [←e];exact h))
  | succ k ih =>
   intro i ys nx e h
   refine LCg.CompRest.succ λ v I oI C oC D m₂ h' tk E' hP hC hx F N off ne=>?_
   have o:=off.mem
   refine wpAny_mono (turn i v ys nx I oI C oC D m₂ h' tk E' (by lia) hP h hC hx F N (λ p hp=>(o p hp).1) (λ p hp=>(o p hp).2.1) (λ p hp=>(o p hp).2.2) ne.1 ne.2.1 ne.2.2) (λ y s₂ q=>?_) λ zz zz e=>e
   refine E3_6 q λ h2 tk2 nx2 e1 F2 N2 o2 S2 r2=>?_;clear q
   exact ⟨h2,tk2,nx2,e1,F2,N2,o2,S2,ih _ _ _ (by lia) r2⟩
 exact key n 0 [] news (by simp+arith) hj
theorem comp_invT {ct elt:Expr} {x:Str} {scope:Scope} {cl:List (Str×Addr)} {S:Lg->Prop} {P:Nat->Value->Prop} {Fin:List Value->Lg->Prop} {n:Nat} {news:Lg} (J:Nat->List Value->Lg->Prop) (hj:J 0 [] news)
 (turn:∀i v ys nx I oI C oC D m₂ h tk (E':Value->Shared->Prop),i < n->P i v->J i ys nx->LCg.NsObj oC m₂->m₂ x=some v->Fr h₀ L h m->News h₀ L h ((I,oI)::(C,oC)::(D,LCg.lst ys)::nx)->(∀p∈nx,p.1≠I)->(∀p∈nx,p.1≠C)->(∀p∈nx,p.1≠D)->I≠C->I≠D->C≠D ->
  wpAny (model prog w) A (isTrue ct (compEnvC scope cl C env) (eval ct (compEnvC scope cl C env))) (λ ok s'=>if ok=true then
   wpAny (model prog w) A (eval elt (compEnvC scope cl C env)) (LCg.CompEnd h₀ L m {s with heap:=h,toks:=tk} I oI C oC D (LCg.lst ys) S (λ y nx'=>J (i+1) (ys++[y]) nx')) E' s'
   else LCg.CompEnd h₀ L m {s with heap:=h,toks:=tk} I oI C oC D (LCg.lst ys) S (λ zz nx'=>J (i+1) ys nx') Value.none s') E' {s with heap:=h,toks:=tk})
 (done:∀ys nx,J n ys nx->Fin ys nx):LCt.CompRestT prog w A h₀ L m env ct elt x scope cl s S P Fin n 0 [] news:=by
 have key:∀k i ys nx,i+k=n->J i ys nx->LCt.CompRestT prog w A h₀ L m env ct elt x scope cl s S P Fin k i ys nx:=by
  intro k
  induction k with
  | zero=>intro i ys nx e h;exact LCt.CompRestT.zero (done _ _ (by rw [←e];exact h))
  | succ k ih =>
   intro i ys nx e h
   refine LCt.CompRestT.succ λ v I oI C oC D m₂ h' tk E' hP hC hx F N off ne=>?_
   have o:=off.mem
   refine wpAny_mono (turn i v ys nx I oI C oC D m₂ h' tk E' (by lia) hP h hC hx F N (λ p hp=>(o p hp).1) (λ p hp=>(o p hp).2.1) (λ p hp=>(o p hp).2.2) ne.1 ne.2.1 ne.2.2) (λ ok s₂ q=>?_) λ zz zz e=>e
   induction ok with
   | true =>
    simp only [if_true] at q ⊢
    refine wpAny_mono q (λ y s₃ q=>?_) λ zz zz e=>e
    refine E3_6 q λ h2 tk2 nx2 e1 F2 N2 o2 S2 r2=>?_;clear q
    exact ⟨h2,tk2,nx2,e1,F2,N2,o2,S2,ih _ _ _ (by lia) r2⟩
   | false =>
    simp only [Bool.false_eq_true,if_false] at q ⊢
    refine E3_6 q λ h2 tk2 nx2 e1 F2 N2 o2 S2 r2=>?_;clear q
    exact ⟨h2,tk2,nx2,e1,F2,N2,o2,S2,ih _ _ _ (by lia) r2⟩
 exact key n 0 [] news (by simp+arith) hj
theorem compEnd {h₀:Heap} {L I C D:Addr} {m:Str->Option Value} {s₁:Shared} {oI oC oD:Obj} {S:Lg->Prop} {rest:Value->Lg->Prop} {y:Value} {h':Heap} {tk:Nat} {all:Lg}
 (nx:Lg) (F:Fr h₀ L h' m) (N:News h₀ L h' all) (sub:∀p∈(I,oI)::(C,oC)::(D,oD)::nx,p∈all) (o1:∀p∈nx,p.1≠I) (o2:∀p∈nx,p.1≠C) (o3:∀p∈nx,p.1≠D) (hS:S nx) (r:rest y nx) :
 LCg.CompEnd h₀ L m s₁ I oI C oC D oD S rest y {s₁ with heap:=h',toks:=tk}:=LCg.CompEnd.intro F N nx sub (LCg.Off3.of λ p hp=>⟨o1 p hp,o2 p hp,o3 p hp⟩) hS r
theorem finE {h₀:Heap} {L:Addr} {m:Str->Option Value} {s:Shared} {Q:Value->Shared->Prop} {ys:List Value} {news:Lg}
 (h:∀D h tk,Fr h₀ L h m->News h₀ L h ((D,LCg.lst ys)::news)->(∀p∈news,p.1≠D)->Q (.ref D) {s with heap:=h,toks:=tk}):LCg.FinE h₀ L m s Q ys news:=by
 intro D h' tk F N o
 have:∀ {l:Lg},LCg.Off1 D l->∀p∈l,p.1≠D:=by
  intro l
  induction l with
  | nil=>intro zz p hp;f_shut hp
  | cons a r ih=>intro q p hp;exact (mem_cons.mp hp).elim (λ e=>e ▸ q.1) (ih q.2 p)
 exact h D h' tk F N (this o)
theorem finA {h₀:Heap} {L:Addr} {m:Str->Option Value} {s:Shared} {x:Str} {Q:Flow->Shared->Prop} {ys:List Value} {news:Lg}
 (h:∀D h tk,Fr h₀ L h (λ z=>if z=x then some (.ref D) else m z)->News h₀ L h ((D,LCg.lst ys)::news)->(∀p∈news,p.1≠D)->Q .next {s with heap:=h,toks:=tk}):LCg.FinA h₀ L m s x Q ys news:=by
 intro D h' tk F N o
 have:∀ {l:Lg},LCg.Off1 D l->∀p∈l,p.1≠D:=by
  intro l
  induction l with
  | nil=>intro zz p hp;f_shut hp
  | cons a r ih=>intro q p hp;exact (mem_cons.mp hp).elim (λ e=>e ▸ q.1) (ih q.2 p)
 exact h D h' tk F N (this o)
end
section
variable {prog:Program} {w:World} {A:Around} {E:Value->Shared->Prop} {s:Shared} {h₀:Heap} {L l:Addr} {news:Lg} {vs:List Value} {k:Nat} {Q:Value->Shared->Prop}
theorem lenL (N:News h₀ L s.heap news) (hm:(l,listOf vs.toArray k)∈news) (hz:vs.length<=900) (h:Q (.int (vs.length:Nat) (s.toks+1)) {s with toks:=s.toks+1+1}):wpAny (model prog w) A (call (.builtin "len") [.ref l]) Q E s :=
 kun_lenL (items:=vs.toArray) ⟨_,(N _ hm).1,rfl,k,rfl⟩ (by trivial) (by lia) h
theorem lenT (N:News h₀ L s.heap news) (hm:(l,tupO vs k)∈news) (hz:vs.length<=900) (h:Q (.int (vs.length:Nat) (s.toks+1)) {s with toks:=s.toks+1+1}):wpAny (model prog w) A (call (.builtin "len") [.ref l]) Q E s :=
 kun_lenT (items:=vs.toArray) ⟨_,(N _ hm).1,rfl,k,rfl⟩ (by trivial) (by lia) h
theorem lenD {κ:Type} [DecidableEq κ] {knd:KeyKind prog w κ} {kvs:List (κ×Value)} {o:Obj} (N:News h₀ L s.heap news) (hm:(l,o)∈news) (hd:o.IsDictOf knd kvs) (lo:(l == sysModules)=false) (hz:kvs.length<=900) (h:Q (.int (kvs.length:Nat) (s.toks+1)) {s with toks:=s.toks+1+1}):wpAny (model prog w) A (call (.builtin "len") [.ref l]) Q E s :=
 kda_len N hm hd lo (by exact Nat.le_trans (by assumption) (by decide)) h
end
theorem notInD {prog:Program} {w:World} {A:Around} {E:Value->Shared->Prop} {s:Shared} {h₀:Heap} {L d:Addr} {news:Lg} {o:Obj} {κ:Type} [DecidableEq κ] {knd:KeyKind prog w κ} {kvs:List (κ×Value)} {k:κ} {key:Value} {Q:Value->Shared->Prop}
 (N:News h₀ L s.heap news) (hp:(d,o)∈news) (hd:o.IsDictOf knd kvs) (lo:(d == sysModules)=false) (hkey:knd.is k key=true) (b:Bool) (hb:(valueAt kvs k).isSome=b) (h:Q (.bool (!b)) {s with toks:=s.toks+1}) :
 wpAny (model prog w) A (compareOp .NotIn key (.ref d)) Q E s:=wpAny_notIn_of hkey lo (kda_dict N hp hd).mapOf (by rw [hb];exact h)
section
variable {prog:Program} {w:World} {A:Around} {E:Value->Shared->Prop} {s:Shared} {h₀:Heap} {L a b:Addr} {news:Lg} {oa ob:Obj} {kvs:List (Str×Value)} {r:Bool} {Q:Value->Shared->Prop}
theorem eqEmptyD (N:News h₀ L s.heap news) (ma:(a,oa)∈news) (mb:(b,ob)∈news) (la:(a == sysModules)=false) (lb:(b == sysModules)=false) (da:oa.IsDictOf (PySem.strKind prog w) kvs) (db:ob.IsDictOf (PySem.strKind prog w) []) (hu:A.units < cLine) (hr:kvs.isEmpty=r)
 (h:Q (.bool r) s):wpAny (model prog w) A (compareOp .Eq (.ref a) (.ref b)) Q E s:=by
 refine keq_eq (r:=true) la lb (kda_dict N ma da) (kda_dict N mb db) hu (λ e=>?_) ?_
 · have:kvs=[]:=List.eq_nil_of_length_eq_zero e
   subst this;exact .nil
 · cases kvs <;> (subst hr;exact h)
theorem neEmptyD (N:News h₀ L s.heap news) (ma:(a,oa)∈news) (mb:(b,ob)∈news) (la:(a == sysModules)=false) (lb:(b == sysModules)=false) (da:oa.IsDictOf (PySem.strKind prog w) kvs) (db:ob.IsDictOf (PySem.strKind prog w) []) (hu:A.units < cLine) (hr:kvs.isEmpty=r)
 (h:Q (.bool (!r)) s):wpAny (model prog w) A (compareOp .NotEq (.ref a) (.ref b)) Q E s:=by
 refine keq_ne (r:=true) la lb (kda_dict N ma da) (kda_dict N mb db) hu (λ e=>?_) ?_
 · have:kvs=[]:=List.eq_nil_of_length_eq_zero e
   subst this;exact .nil
 · cases kvs <;> (subst hr;exact h)
end
section
variable {C X:Lg} {a d L:Addr} {o:Obj}
end
set_option genSizeOfSpec false
noncomputable abbrev Ext (A B:Lg):Prop:=∀p∈A,p∈B
inductive OV where
 | lst (ms:List MV)
 | dct (kvs:List (Str×MV))
 | ict (kvs:List (Int×MV))
 | obj (C:Nat) (dx:Addr)
 | fld (fs:List (String×MV))
set_option genInjectivity false
noncomputable abbrev Ow:=List (Addr×OV)
noncomputable abbrev Vs:=List (Option MV)
inductive OIn (w:World) (N:Lg) (a:Addr):Obj->OV->Prop
 | lst {vs k ms}:MAll w N vs ms->OIn w N a (listOf vs.toArray k) (.lst ms)
 | dct {o:Obj} {pvs kvs}:(a == sysModules)=false->o.IsDictOf (PySem.strKind PG w) pvs->MKv w N pvs kvs->OIn w N a o (.dct kvs)
 | ict {o:Obj} {pvs kvs}:(a == sysModules)=false->o.IsDictOf (PySem.intKind PG w) pvs->MIk w N pvs kvs->OIn w N a o (.ict kvs)
 | obj {C:Nat} {dx:Addr}:OIn w N a (instObj C dx) (.obj C dx)
 | fld {es k fs}:MFs w N es fs->OIn w N a (dictOf es k) (.fld fs)
section
variable {w:World} {N:Lg} {a:Addr} {o:Obj} {motive:Obj->Prop} {G:Prop}
noncomputable def OIn.I (w:World) (N:Lg) (a:Addr) (o:Obj):OV->Prop
 | .lst ms=>∃vs k,o=listOf vs.toArray k/\MAll w N vs ms
 | .dct kvs=>∃pvs,(a == sysModules)=false/\o.IsDictOf (PySem.strKind PG w) pvs/\MKv w N pvs kvs
 | .ict kvs=>∃pvs,(a == sysModules)=false/\o.IsDictOf (PySem.intKind PG w) pvs/\MIk w N pvs kvs
 | .obj C dx=>o=instObj C dx
 | .fld fs=>∃es k,o=dictOf es k/\MFs w N es fs
theorem OIn.inv {ov:OV} (h:OIn w N a o ov):OIn.I w N a o ov:=by
 induction h with
 | lst h=>exact ⟨_,_,rfl,h⟩
 | dct a b h=>exact ⟨_,a,b,h⟩
 | ict a b h=>exact ⟨_,a,b,h⟩
 | obj=>exact rfl
 | fld h=>exact ⟨_,_,rfl,h⟩
@[elab_as_elim] theorem OIn.lstE {ms:List MV} (h:OIn w N a o (.lst ms)) (k:∀vs k,MAll w N vs ms->motive (listOf vs.toArray k)):motive o:=E2_2 h.inv λ vs n e q=>e ▸ k vs n q
theorem OIn.dctE {kvs:List (Str×MV)} (h:OIn w N a o (.dct kvs)) (k:∀pvs,(a == sysModules)=false->o.IsDictOf (PySem.strKind PG w) pvs->MKv w N pvs kvs->G):G:=E1_3 h.inv k
theorem OIn.ictE {kvs:List (Int×MV)} (h:OIn w N a o (.ict kvs)) (k:∀pvs,(a == sysModules)=false->o.IsDictOf (PySem.intKind PG w) pvs->MIk w N pvs kvs->G):G:=E1_3 h.inv k
@[elab_as_elim] theorem OIn.objE {C:Nat} {dx:Addr} (h:OIn w N a o (.obj C dx)) (k:motive (instObj C dx)):motive o:=(show o=instObj C dx from h.inv) ▸ k
@[elab_as_elim] theorem OIn.fldE {fs:List (String×MV)} (h:OIn w N a o (.fld fs)) (k:∀es k,MFs w N es fs->motive (dictOf es k)):motive o:=E2_2 h.inv λ es n e q=>e ▸ k es n q
end
theorem OIn.mono {w:World} {N N':Lg} {a:Addr} {o:Obj} {ov:OV} (hs:Ext N N') (h:OIn w N a o ov):OIn w N' a o ov:=by
 induction h with
 | lst h=>exact .lst (h.mono hs)
 | dct a b h=>exact .dct a b (h.mono hs)
 | ict a b h=>exact .ict a b (h.mono hs)
 | obj=>exact .obj
 | fld h=>exact .fld (h.mono hs)
inductive OAll (w:World) (N:Lg):Lg->Ow->Prop
 | nil:OAll w N [] []
 | cons {a:Addr} {o:Obj} {ov:OV} {ob:Lg} {own:Ow}:OIn w N a o ov->OAll w N ob own->OAll w N ((a,o)::ob) ((a,ov)::own)
noncomputable def OAll.I (w:World) (N ob:Lg):Ow->Prop
 | []=>ob=[]
 | p::own=>∃o r,ob=(p.1,o)::r/\OIn w N p.1 o p.2/\OAll w N r own
theorem OAll.inv {w:World} {N ob:Lg} {own:Ow} (h:OAll w N ob own):OAll.I w N ob own:=by
 induction h with
 | nil=>exact rfl
 | cons h q zz=>exact ⟨_,_,rfl,h,q⟩
@[elab_as_elim] theorem OAll.cp {w:World} {N ob:Lg} {motive:Lg->Prop} {p:Addr×OV} {own:Ow} (h:OAll w N ob (p::own)) (k:∀o r,OIn w N p.1 o p.2->OAll w N r own->motive ((p.1,o)::r)):motive ob:=E2_3 h.inv λ o r e p q=>e ▸ k o r p q
@[elab_as_elim] theorem OAll.cn {w:World} {N ob:Lg} {motive:Lg->Prop} {a:Addr} {ov:OV} {own:Ow} (h:OAll w N ob ((a,ov)::own)) (k:∀o r,OIn w N a o ov->OAll w N r own->motive ((a,o)::r)):motive ob:=h.cp k
theorem OAll.mono {w:World} {N N':Lg} {ob:Lg} {own:Ow} (hs:Ext N N') (h:OAll w N ob own):OAll w N' ob own:=by
 induction h with
 | nil=>exact .nil
 | cons h zz ih=>exact .cons (h.mono hs) ih
theorem OAll.at {w:World} {N:Lg} {ob:Lg} {own:Ow} (h:OAll w N ob own) {a:Addr} {ov:OV} (hm:(a,ov)∈own):∃o,(a,o)∈ob/\OIn w N a o ov:=by
 induction h with
 | nil=>f_shut hm
 | cons h zz ih =>
  cases hm with
  | head=>exact ⟨_,.head _,h⟩
  | tail zz hm=>obtain ⟨o,h1,h2⟩:=ih hm;exact ⟨o,.tail _ h1,h2⟩
inductive Up:Ow->Addr->OV->OV->Ow->Prop
 | head {a:Addr} {ov ov':OV} {r:Ow}:Up ((a,ov)::r) a ov ov' ((a,ov')::r)
 | tail {a:Addr} {ov ov':OV} {p:Addr×OV} {r r':Ow}:Up r a ov ov' r'->Up (p::r) a ov ov' (p::r')
theorem Up.mem {own own':Ow} {a:Addr} {ov ov':OV} (h:Up own a ov ov' own'):(a,ov)∈own:=by
 induction h with
 | head=>exact .head _
 | tail zz ih=>exact .tail _ ih
theorem OAll.up {w:World} {N:Lg} {ob:Lg} {own own':Ow} {a:Addr} {ov ov':OV} (h:OAll w N ob own) (u:Up own a ov ov' own') :
 ∃pre o post,ob=pre++(a,o)::post/\OIn w N a o ov/\∀o',OIn w N a o' ov'->OAll w N (pre++(a,o')::post) own':=by
 induction u generalizing ob with
 | head=>exact h.cn λ zz zz h1 h2=>⟨[],_,_,rfl,h1,λ o' q=>.cons q h2⟩
 | tail u ih=>exact h.cn λ zz zz h1 h2=>E3_3 (ih h2) λ pre o post e q1 q2=>⟨_::pre,o,post,congrArg _ e,q1,λ o' q=>.cons h1 (q2 o' q)⟩
structure Wd where
 w:World
 mean:ExcName->Option Value
 mg:Str->Option Value
 mb:Str->Option Value
 /-- what lies in the ground -/
 gr:Lg
structure Info where
 cn:Str
 cs:Scope
 a:Addr
 ccd:Value
 names:List (Str×Bool)
 hb:Bool
 cp:Option Scope
theorem neInfo:Nonempty Info:=⟨⟨default,default,0,.none,[],false,none⟩⟩
theorem neWd:Nonempty Wd:=neWorld.elim λ w=>⟨⟨w,λ zz=>none,λ zz=>none,λ zz=>none,[]⟩⟩
noncomputable abbrev fEnv (I:Info) (L:Addr):Env:=envX I.cn I.cs L I.a I.ccd (cellsFrom (L+1) I.cs.names [])
noncomputable def clF (sc:Scope) (env:Env):List (Str×Addr):=((sc.names.filter λ p=>p.2 == .free).map λ p=>(p.1,(env.cells.lookup p.1).getD 0)).reverse
noncomputable def cEnv (I:Info) (L C:Addr):Env:=match I.cp with | none=>fEnv I L | some sc=>compEnvC sc (clF sc (fEnv I L)) C (fEnv I L)
noncomputable def HIn (hh:Option Value) (N:Lg):Prop:=match hh with | none=>True | some (.ref e)=>∃oe ws,(e,oe)∈N/\oe.data = .fields ws/\ws[2]? = some .none | some _=>False
theorem HIn.mono {hh:Option Value} {N N':Lg} (h:HIn hh N) (hs:∀p∈N,p∈N'):HIn hh N':=by
 unfold HIn at h ⊢
 split at h
 · trivial
 · obtain ⟨oe,ws,a,b,c⟩:=h
   exact ⟨oe,ws,hs _ a,b,c⟩
 · exact h.elim
structure TopV (W:Wd) (h:Heap):Prop extends Top V (looseW V [Str.ofString "PaperError",Str.ofString "told_objects"]) W.mean W.mg W.mb h where
 gr:∀p∈W.gr,h.get? p.1=some p.2
structure OkI (I:Info):Prop where
 nd:(I.names.map (λ zz=>zz.1)).Nodup
 kd:∀p∈I.names,(cEnv I 0 0).kindOf p.1=some (if p.2 then .cell else .local)
 fk:(cEnv I 0 0).scope.kind = .function
 hk:I.cs.kind = .function
 cnd:((cellsFrom 0 I.cs.names []).map (λ zz=>zz.1)).Nodup
 cl:∀p∈I.names,p.2=true->∀L,∃a,(cEnv I L 0).cells.lookup p.1=some a/\(p.1,a)∈cellsFrom (L+1) I.cs.names []
structure Cx (W:Wd) (I:Info) (r:Nat) where
 dp:Nat
 un:Nat
 gd:Option (List Code)
 L:Addr
 C:Addr
 m0:Str->Option Value
 cm0:Str->Option Value
 outer:List Env
 A₀:Around
 base:Heap
 h₀:Heap
 s:Shared
 E:Value->Shared->Prop
 old:Lg
 fz:Lg
 hh:Option Value
theorem neCx {W:Wd} {I:Info} {r:Nat}:Nonempty (Cx W I r):=⟨⟨0,0,none,0,0,λ zz=>none,λ zz=>none,[],{},{},{},{},λ zz zz=>True,[],[],none⟩⟩
structure Cx.Ok {W:Wd} {I:Info} {r:Nat} (c:Cx W I r):Prop where
 B:Below c.A₀ c.base c.outer c.h₀
 X:(HP W.w.params).In c.h₀
 T:TopV W c.h₀
 ok:OkI I
 hd:c.dp+r < recursionLimit
 hu:c.un+8 * r < cLine
 hhb:I.hb=false->c.hh=none
 po:I.cp=none->PassesOwn (model PG W.w) {handled:=c.hh,depth:=c.dp,frames:=some (fEnv I c.L::c.outer),guards:=c.gd,units:=c.un} (fEnv I c.L) c.E
section
variable {W:Wd} {I:Info} {r:Nat}
noncomputable def Cx.A (c:Cx W I r):Around:={handled:=c.hh,depth:=c.dp,frames:=some (fEnv I c.L::c.outer),guards:=c.gd,units:=c.un}
noncomputable def Cx.env (c:Cx W I r):Env:=cEnv I c.L c.C
noncomputable def Cx.Holds (c:Cx W I r) (m cm:Str->Option Value) (b:Bool) (x:Str) (v:Value):Prop :=
 match b,I.cp with
 | true,_=>cm x=some v
 | false,none=>m x=some v
 | false,some _=>∃oC m₂,(c.C,oC)∈c.old/\LCg.NsObj oC m₂/\m₂ x=some v
noncomputable def Cx.Kr (c:Cx W I r) (m cm:Str->Option Value) (N:Lg) (p:Str×Bool) (o:Option MV):Prop:=∀mv,o=some mv->∃v,c.Holds m cm p.2 p.1 v/\MIn W.w N v mv
noncomputable abbrev Cx.Kn (c:Cx W I r) (m cm:Str->Option Value) (N:Lg):List (Str×Bool)->Vs->Prop:=All2 (c.Kr m cm N)
section
variable {c:Cx W I r} {m cm:Str->Option Value} {N:Lg} {p:Str×Bool} {ns:List (Str×Bool)} {vals:Vs}
theorem Cx.Kn.nil:c.Kn m cm N [] []:=All2.nil
theorem Cx.Kn.none (k:c.Kn m cm N ns vals):c.Kn m cm N (p::ns) (none::vals):=All2.cons (λ zz e=>nomatch e) k
theorem Cx.Kn.some {v:Value} {mv:MV} (a:c.Holds m cm p.2 p.1 v) (b:MIn W.w N v mv) (k:c.Kn m cm N ns vals):c.Kn m cm N (p::ns) (some mv::vals):=All2.cons (λ zz e=>Option.some.inj e ▸ ⟨_,a,b⟩) k
theorem Cx.Kn.imp {I':Info} {r':Nat} {c':Cx W I' r'} {m' cm':Str->Option Value} {N':Lg} (hs:∀b x v,c.Holds m cm b x v->c'.Holds m' cm' b x v) (hm:∀v mv,MIn W.w N v mv->MIn W.w N' v mv) (k:c.Kn m cm N ns vals):c'.Kn m' cm' N' ns vals:=All2.imp (λ zz zz h mv e=>E1_2 (h mv e) λ v a b=>⟨v,hs _ _ _ a,hm _ _ b⟩) k
end
structure Cx.S0 (c:Cx W I r) (m cm:Str->Option Value) (ob cel frz:Lg) (vals:Vs) (own:Ow):Prop where
 k:c.Ok
 nd:((ob++cel).map (λ zz=>zz.1)).Nodup
 ao:∀p∈ob++cel,∀q∈c.old,p.1≠q.1
 af:∀p∈ob++(cel++c.old),∀q∈frz,p.1≠q.1
 ow:OAll W.w frz ob own
 cc:CellsAre cm (cellsFrom (c.L+1) I.cs.names []) cel
 kn:c.Kn m cm frz I.names vals
 hi:HIn c.hh (c.old++frz)
 fx:Ext c.fz frz
 fm:I.cp≠none->m=c.m0/\cm=c.cm0
structure Cx.St (c:Cx W I r) (h:Heap) (m cm:Str->Option Value) (ob cel frz:Lg) (vals:Vs) (own:Ow):Prop where
 k:c.Ok
 F:Fr c.h₀ c.L h m
 N:News c.h₀ c.L h (ob++(cel++(c.old++frz)))
 nd:((ob++cel).map (λ zz=>zz.1)).Nodup
 ao:∀p∈ob++cel,∀q∈c.old,p.1≠q.1
 af:∀p∈ob++(cel++c.old),∀q∈frz,p.1≠q.1
 ow:OAll W.w frz ob own
 cc:CellsAre cm (cellsFrom (c.L+1) I.cs.names []) cel
 kn:c.Kn m cm frz I.names vals
 hi:HIn c.hh (c.old++frz)
 fx:Ext c.fz frz
 fm:I.cp≠none->m=c.m0/\cm=c.cm0
theorem Cx.St.s0 {c:Cx W I r} {h:Heap} {m cm:Str->Option Value} {ob cel frz:Lg} {vals:Vs} {own:Ow} (S:c.St h m cm ob cel frz vals own):c.S0 m cm ob cel frz vals own:=⟨S.k,S.nd,S.ao,S.af,S.ow,S.cc,S.kn,S.hi,S.fx,S.fm⟩
theorem Cx.S0.st {c:Cx W I r} {h:Heap} {m cm:Str->Option Value} {ob cel frz:Lg} {vals:Vs} {own:Ow} (S:c.S0 m cm ob cel frz vals own) (F:Fr c.h₀ c.L h m) (N:News c.h₀ c.L h (ob++(cel++(c.old++frz)))):c.St h m cm ob cel frz vals own:=⟨S.k,F,N,S.nd,S.ao,S.af,S.ow,S.cc,S.kn,S.hi,S.fx,S.fm⟩
inductive Cx.AtI (c:Cx W I r) (vals:Vs) (own:Ow) (vs:List Value) (ms:List MV):Shared->Prop
 | mk (h:Heap) (tk:Nat) (m cm:Str->Option Value) (ob cel frz:Lg) (S:c.St h m cm ob cel frz vals own) (hv:MAll W.w frz vs ms):Cx.AtI c vals own vs ms {c.s with heap:=h,toks:=tk}
noncomputable abbrev Cx.At (c:Cx W I r) (s:Shared) (vals:Vs) (own:Ow) (vs:List Value) (ms:List MV):Prop:=c.AtI vals own vs ms s
theorem Cx.AtI.k {c:Cx W I r} {s:Shared} {vals:Vs} {own:Ow} {vs:List Value} {ms:List MV} (a:c.AtI vals own vs ms s):c.Ok:=by
 induction a with | mk h tk m cm ob cel frz S hv=>exact S.k
section
variable {c:Cx W I r} {vals:Vs} {own:Ow} {ws vs:List Value} {l ms:List MV} {v u t:Value} {m n o:MV} {motive:Shared->Prop} {s:Shared}
@[elab_as_elim] theorem Cx.AtI.el (a:c.AtI vals own vs ms s) (k:∀ (h:Heap) (tk:Nat) (m cm:Str->Option Value) (ob cel frz:Lg),c.St h m cm ob cel frz vals own->MAll W.w frz vs ms->motive {c.s with heap:=h,toks:=tk}):motive s:=by
 induction a with | mk h tk m cm ob cel frz S hv=>exact k h tk m cm ob cel frz S hv
@[elab_as_elim] theorem Cx.AtI.el1 (a:c.AtI vals own (v::vs) (m::ms) s) (k:∀ (h:Heap) (tk:Nat) (m1 cm:Str->Option Value) (ob cel frz:Lg),c.St h m1 cm ob cel frz vals own->MIn W.w frz v m->MAll W.w frz vs ms->motive {c.s with heap:=h,toks:=tk}):motive s :=
 a.el λ h tk m1 cm ob cel frz S hv=>k h tk m1 cm ob cel frz S hv.hd hv.tl
@[elab_as_elim] theorem Cx.AtI.el2 (a:c.AtI vals own (v::u::vs) (m::n::ms) s) (k:∀ (h:Heap) (tk:Nat) (m1 cm:Str->Option Value) (ob cel frz:Lg),c.St h m1 cm ob cel frz vals own->MIn W.w frz v m->MIn W.w frz u n->MAll W.w frz vs ms->motive {c.s with heap:=h,toks:=tk}):motive s :=
 a.el1 λ h tk m1 cm ob cel frz S h1 hv=>k h tk m1 cm ob cel frz S h1 hv.hd hv.tl
@[elab_as_elim] theorem Cx.AtI.el3 (a:c.AtI vals own (v::u::t::vs) (m::n::o::ms) s) (k:∀ (h:Heap) (tk:Nat) (m1 cm:Str->Option Value) (ob cel frz:Lg),c.St h m1 cm ob cel frz vals own->MIn W.w frz v m->MIn W.w frz u n->MIn W.w frz t o->MAll W.w frz vs ms->motive {c.s with heap:=h,toks:=tk}):motive s :=
 a.el2 λ h tk m1 cm ob cel frz S h1 h2 hv=>k h tk m1 cm ob cel frz S h1 h2 hv.hd hv.tl
theorem All2.splits {w:World} {N:Lg}:∀ {ws:List Value} {l:List MV},ws.length=l.length->MAll w N (ws++vs) (l++ms)->MAll w N ws l/\MAll w N vs ms
 | [],[],_,h=>⟨.nil,h⟩
 | [],_::_,e,_=>nomatch e
 | _::_,[],e,_=>nomatch e
 | _::_,_::_,e,h=>have q:=All2.splits (Nat.succ.inj e) h.tl;⟨.cons h.hd q.1,q.2⟩
@[elab_as_elim] theorem Cx.AtI.elS (a:c.AtI vals own (ws++vs) (l++ms) s) (e:ws.length=l.length) (k:∀ (h:Heap) (tk:Nat) (m1 cm:Str->Option Value) (ob cel frz:Lg),c.St h m1 cm ob cel frz vals own->MAll W.w frz ws l->MAll W.w frz vs ms->motive {c.s with heap:=h,toks:=tk}):motive s :=
 a.el λ h tk m1 cm ob cel frz S hv=>k h tk m1 cm ob cel frz S (All2.splits e hv).1 (All2.splits e hv).2
end
end
inductive Nm:List (Str×Bool)->Vs->Str->MV->Prop
 | head {x:Str} {b:Bool} {ns m vs}:Nm ((x,b)::ns) (some m::vs) x m
 | tail {p ns v vs x m}:Nm ns vs x m->Nm (p::ns) (v::vs) x m
inductive Nt:List (Str×Bool)->Vs->Str->Bool->MV->Vs->Prop
 | head {x:Str} {b:Bool} {ns m v vs}:Nt ((x,b)::ns) (v::vs) x b m (some m::vs)
 | tail {p ns v vs x b m vs'}:Nt ns vs x b m vs'->Nt (p::ns) (v::vs) x b m (v::vs')
theorem Nt.mem {ns vs x b m vs'} (h:Nt ns vs x b m vs'):(x,b)∈ns:=by
 induction h with
 | head=>exact .head _
 | tail zz ih=>exact .tail _ ih
theorem cellsFrom_nd:∀ (ns:List (Str×NameKind)) (n k:Nat) (acc acc':List (Str×Addr)),acc.map (λ zz=>zz.1)=acc'.map (λ zz=>zz.1)->(cellsFrom n ns acc).map (λ zz=>zz.1)=(cellsFrom k ns acc').map (λ zz=>zz.1)
 | [],_,_,_,_,e=>e
 | (x,kd)::r,n,k,acc,acc',e=>by
  unfold cellsFrom
  split
  · exact cellsFrom_nd r _ _ _ _ (by simp [e])
  · exact cellsFrom_nd r _ _ _ _ e
theorem cells_look {cm:Str->Option Value} {cs:List (Str×Addr)} {cel:Lg} (h:CellsAre cm cs cel) {x:Str} {a:Addr} (hm:(x,a)∈cs):∃o,(a,o)∈cel/\o.data = .cell (cm x):=by
 induction h with
 | nil=>exact absurd hm not_mem_nil
 | cons h1 zz ih =>
  rcases mem_cons.mp hm with e | hm
  · exact ⟨_,(Prod.mk.inj e).2 ▸ .head _,(Prod.mk.inj e).1 ▸ h1⟩
  · exact E1_2 (ih hm) λ o q1 q2=>⟨o,.tail _ q1,q2⟩
theorem cells_addr {cm:Str->Option Value} {cs:List (Str×Addr)} {cel:Lg} (h:CellsAre cm cs cel):cel.map (λ zz=>zz.1)=cs.map (λ zz=>zz.2):=by
 induction h with
 | nil=>rfl
 | cons _ _ ih=>simp [ih]
theorem cells_same {cm cm':Str->Option Value} {cs:List (Str×Addr)} {cel:Lg} (h:CellsAre cm cs cel) (e:∀p∈cs,cm' p.1=cm p.1):CellsAre cm' cs cel:=by
 induction h with
 | nil=>exact .nil
 | cons h1 zz ih=>exact .cons (by rw [h1,e _ (.head _)]) (ih λ p hp=>e p (.tail _ hp))
theorem cells_upd {cm:Str->Option Value} {cs:List (Str×Addr)} {cel:Lg} (h:CellsAre cm cs cel) (nd:(cs.map (λ zz=>zz.1)).Nodup) {x:Str} {a:Addr} (hm:(x,a)∈cs) :
 ∃pre o post,cel=pre++(a,o)::post/\o.data = .cell (cm x)/\∀o' v,o'.data = .cell (some v)->CellsAre (λ y=>if y=x then some v else cm y) cs (pre++(a,o')::post):=by
 induction h with
 | nil=>exact absurd hm not_mem_nil
 | @cons n c o cs cells h1 h2 ih =>
  have nd:=nodup_cons.mp nd
  rcases mem_cons.mp hm with e | hm
  · rw [(Prod.mk.inj e).1,(Prod.mk.inj e).2]
    refine ⟨[],o,cells,rfl,h1,λ o' v e=>.cons (by rw [if_pos rfl];exact e) (cells_same h2 λ p hp=>?_)⟩
    rw [if_neg];intro e;exact nd.1 (mem_map.mpr ⟨p,hp,e⟩)
  · refine E3_3 (ih nd.2 hm) λ pre o1 post e q1 q2=>⟨(c,o)::pre,o1,post,congrArg _ e,q1,λ o' v e=>.cons ?_ (q2 o' v e)⟩
    rw [if_neg,h1]
    intro e;exact nd.1 (mem_map.mpr ⟨_,hm,e.symm⟩)
section
variable {W:Wd} {I:Info} {r:Nat} {c:Cx W I r} {h h':Heap} {m cm:Str->Option Value} {ob cel frz:Lg} {vals:Vs} {own:Ow}
theorem Cx.Kn.mono {N N':Lg} {ns:List (Str×Bool)} (hs:Ext N N') (k:c.Kn m cm N ns vals):c.Kn m cm N' ns vals:=k.imp (λ zz zz zz h=>h) λ zz zz=>MIn.mono hs
theorem Cx.Kn.at {N:Lg} {ns:List (Str×Bool)} (k:c.Kn m cm N ns vals) {x:Str} {mv:MV} (n:Nm ns vals x mv):∃b v,(x,b)∈ns/\c.Holds m cm b x v/\MIn W.w N v mv:=by
 induction n with
 | head=>exact E1_2 (k.hd _ rfl) λ v a b=>⟨_,v,.head _,a,b⟩
 | tail zz ih=>exact E2_2 (ih k.tl) λ b v q1 q2=>⟨b,v,.tail _ q1,q2⟩
theorem Cx.Holds.locU {y x:Str} {b:Bool} {v v':Value} (hn:y≠x) (hh:c.Holds m cm b y v'):c.Holds (λ z=>if z=x then some v else m z) cm b y v':=by
 unfold Cx.Holds at hh ⊢
 split at hh
 · exact hh
 · simpa [hn] using hh
 · exact hh
theorem Cx.Holds.cellU {y x:Str} {b:Bool} {v v':Value} (hn:y≠x) (hh:c.Holds m cm b y v'):c.Holds m (λ z=>if z=x then some v else cm z) b y v':=by
 unfold Cx.Holds at hh ⊢
 split at hh
 · simpa [hn] using hh
 · exact hh
 · exact hh
theorem Cx.Kn.off {N:Lg} {m' cm':Str->Option Value} {x:Str} (up:∀y b v,y≠x->c.Holds m cm b y v->c.Holds m' cm' b y v):∀ {ns:List (Str×Bool)} {vals:Vs},x∉ns.map (λ zz=>zz.1)->c.Kn m cm N ns vals->c.Kn m' cm' N ns vals:=by
 intro ns vals hx k
 induction k with
 | nil=>exact .nil
 | cons h zz ih=>exact .cons (λ mv e=>E1_2 (h mv e) λ v a b=>⟨v,up _ _ _ (λ e=>hx (e ▸ .head _)) a,b⟩) (ih λ q=>hx (.tail _ q))
theorem Cx.Kn.put {N:Lg} {m' cm':Str->Option Value} {x:Str} {b:Bool} {mv:MV} {v:Value} (hv:MIn W.w N v mv) (hx:c.Holds m' cm' b x v)
 (up:∀y b v,y≠x->c.Holds m cm b y v->c.Holds m' cm' b y v):∀ {ns:List (Str×Bool)} {vals vals':Vs},(ns.map (λ zz=>zz.1)).Nodup->Nt ns vals x b mv vals'->c.Kn m cm N ns vals->c.Kn m' cm' N ns vals':=by
 intro ns vals vals' nd t k
 induction t with
 | head =>
  exact .some hx hv (Cx.Kn.off up (nodup_cons.mp nd).1 k.tl)
 | tail t ih =>
  have nd:=nodup_cons.mp nd
  have hne:∀ {x:Str} {b:Bool} {ns:List (Str×Bool)} {p:Str×Bool},(x,b)∈ns->p.1∉ns.map (λ zz=>zz.1)->p.1≠x:=λ hm q e=>q (mem_map.mpr ⟨_,hm,e.symm⟩)
  exact .cons (λ mv e=>E1_2 (k.hd mv e) λ v a b=>⟨v,up _ _ _ (hne t.mem nd.1) a,b⟩) (ih hv hx up nd.2 k.tl)
theorem Cx.St.pure (S:c.St h m cm ob cel frz vals own):News c.h₀ c.L h frz:=λ p hp=>S.N p (mem_append_right _ (mem_append_right _ (mem_append_right _ hp)))
noncomputable abbrev Cx.all (c:Cx W I r) (ob cel frz:Lg):Lg:=ob++(cel++(c.old++frz))
theorem Cx.St.frzn (S:c.St h m cm ob cel frz vals own) {X:Lg} (F':Fr c.h₀ c.L h' m) (N':News c.h₀ c.L h' (X++c.all ob cel frz)) (off:∀q∈c.all ob cel frz,∀p∈X,q.1≠p.1):c.St h' m cm ob cel (X++frz) vals own where
 F:=F'
 N:=λ p hp=>N' p (by kso_open hp)
 k:=S.k
 nd:=S.nd
 ao:=S.ao
 af:=λ p hp q hq=>(mem_append.mp hq).elim (λ hq=>off p (by kso_open hp) q hq) (S.af p hp q)
 ow:=S.ow.mono λ p hp=>mem_append_right _ hp
 cc:=S.cc
 kn:=S.kn.mono λ p hp=>mem_append_right _ hp
 hi:=S.hi.mono λ p hp=>(mem_append.mp hp).elim (λ a=>mem_append_left _ a) λ a=>mem_append_right _ (mem_append_right _ a)
 fx:=λ p hp=>mem_append_right _ (S.fx p hp)
 fm:=S.fm
theorem Cx.St.new (S:c.St h m cm ob cel frz vals own) {a:Addr} {o:Obj} {ov:OV} (F':Fr c.h₀ c.L h' m) (N':News c.h₀ c.L h' ((a,o)::c.all ob cel frz)) (off:∀q∈c.all ob cel frz,q.1≠a) (ho:OIn W.w frz a o ov):c.St h' m cm ((a,o)::ob) cel frz vals ((a,ov)::own) where
 F:=F'
 N:=N'
 k:=S.k
 nd:=by
  show (a::(ob++cel).map (λ zz=>zz.1)).Nodup
  rw [nodup_cons]
  refine ⟨λ q=>?_,S.nd⟩
  refine E1_2 (mem_map.mp q) λ p hp e=>?_
  exact off p (by kso_open hp) e
 ao:=λ p hp q hq=>by
  rcases mem_cons.mp hp with rfl | hp
  · exact Ne.symm (off q (by k_flat))
  · exact S.ao p hp q hq
 af:=λ p hp q hq=>by
  rcases mem_cons.mp hp with rfl | hp
  · exact Ne.symm (off q (by k_flat))
  · exact S.af p hp q hq
 ow:=.cons ho S.ow
 cc:=S.cc
 kn:=S.kn
 hi:=S.hi
 fx:=S.fx
 fm:=S.fm
theorem nd_split {pre post rest:Lg} {a:Addr} {o:Obj} (nd:(((pre++(a,o)::post)++rest).map (λ zz=>zz.1)).Nodup):(∀p∈pre,p.1≠a)/\(∀p∈post++rest,p.1≠a):=by
 rw [append_assoc,map_append,nodup_append] at nd
 refine E0_3 nd λ zz h2 h3=>?_;clear nd
 rw [cons_append,map_cons,nodup_cons] at h2
 exact ⟨λ p hp e=>h3 _ (mem_map.mpr ⟨p,hp,rfl⟩) a (.head _) e,λ p hp e=>h2.1 (mem_map.mpr ⟨p,hp,e⟩)⟩
theorem updF_of {a:Addr} {o:Obj} {post:Lg}:∀ {pre:Lg},(∀p∈pre,p.1≠a)->(∀p∈post,p.1≠a)->UpdF a o (pre++(a,o)::post) (λ o'=>pre++(a,o')::post)
 | [],_,h=>.head h
 | p::r,h1,h2=>.tail (h1 p (.head _)) (updF_of (λ q hq=>h1 q (.tail _ hq)) h2)
theorem upd_of {a:Addr} {o o':Obj} {post:Lg}:∀ {pre:Lg},(∀p∈pre,p.1≠a)->(∀p∈post,p.1≠a)->Upd a o o' (pre++(a,o)::post) (pre++(a,o')::post)
 | [],_,h=>.head h
 | p::r,h1,h2=>.tail (h1 p (.head _)) (upd_of (λ q hq=>h1 q (.tail _ hq)) h2)
theorem Cx.St.off {pre post:Lg} {a:Addr} {o:Obj} (S:c.St h m cm (pre++(a,o)::post) cel frz vals own):(∀p∈pre,p.1≠a)/\(∀p∈post++(cel++(c.old++frz)),p.1≠a):=by
 obtain ⟨h1,h2⟩:=nd_split S.nd
 refine ⟨h1,λ p hp=>?_⟩
 simp only [mem_append] at hp
 rcases hp with q | q | q | q
 · exact h2 p (by simp [q])
 · exact h2 p (by simp [q])
 · exact Ne.symm (S.ao (a,o) (by simp) p q)
 · exact Ne.symm (S.af (a,o) (by simp) p q)
theorem Cx.St.updF {pre post:Lg} {a:Addr} {o:Obj} (S:c.St h m cm (pre++(a,o)::post) cel frz vals own):UpdF a o (c.all (pre++(a,o)::post) cel frz) (λ o'=>c.all (pre++(a,o')::post) cel frz):=by
 obtain ⟨h1,h2⟩:=S.off
 have:=updF_of (o:=o) h1 h2
 simpa [Cx.all] using this
theorem Cx.St.upd {pre post:Lg} {a:Addr} {o:Obj} (o':Obj) (S:c.St h m cm (pre++(a,o)::post) cel frz vals own):Upd a o o' (c.all (pre++(a,o)::post) cel frz) (c.all (pre++(a,o')::post) cel frz):=by
 obtain ⟨h1,h2⟩:=S.off
 have:=upd_of (o:=o) (o':=o') h1 h2
 simpa [Cx.all] using this
theorem Cx.St.set {pre post:Lg} {a:Addr} {o o':Obj} {own':Ow} (S:c.St h m cm (pre++(a,o)::post) cel frz vals own) (F':Fr c.h₀ c.L h' m) (N':News c.h₀ c.L h' (c.all (pre++(a,o')::post) cel frz)) (ho:OAll W.w frz (pre++(a,o')::post) own') :
 c.St h' m cm (pre++(a,o')::post) cel frz vals own' where
 F:=F'
 N:=N'
 k:=S.k
 nd:=by have:=S.nd;simpa using this
 ao:=λ p hp q hq=>by
  have:=S.ao
  rcases mem_append.mp hp with hp | hp
  · rcases mem_append.mp hp with hp | hp
    · exact S.ao p (by k_flat) q hq
    · rcases mem_cons.mp hp with rfl | hp
      · exact S.ao (a,o) (by simp) q hq
      · exact S.ao p (by k_flat) q hq
  · exact S.ao p (by k_flat) q hq
 af:=λ p hp q hq=>by
  rcases mem_append.mp hp with hp | hp
  · rcases mem_append.mp hp with hp | hp
    · exact S.af p (by k_flat) q hq
    · rcases mem_cons.mp hp with rfl | hp
      · exact S.af (a,o) (by simp) q hq
      · exact S.af p (by k_flat) q hq
  · exact S.af p (mem_append_right _ hp) q hq
 ow:=ho
 cc:=S.cc
 kn:=S.kn
 hi:=S.hi
 fx:=S.fx
 fm:=S.fm
theorem Cx.St.eUp {G:Prop} {own':Ow} {a:Addr} {ov ov':OV} (S:c.St h m cm ob cel frz vals own) (u:Up own a ov ov' own') (k:∀pre o post,c.St h m cm (pre++(a,o)::post) cel frz vals own->OIn W.w frz a o ov->(∀o',OIn W.w frz a o' ov'->OAll W.w frz (pre++(a,o')::post) own')->G):G:=E3_3 (S.ow.up u) λ pre o post e q1 q2=>k pre o post (e ▸ S) q1 q2
theorem Cx.St.eLst {G:Prop} {own':Ow} {a:Addr} {l:List MV} {ov':OV} (S:c.St h m cm ob cel frz vals own) (u:Up own a (.lst l) ov' own') (k:∀pre us j post,c.St h m cm (pre++(a,listOf us.toArray j)::post) cel frz vals own->MAll W.w frz us l->(∀o',OIn W.w frz a o' ov'->OAll W.w frz (pre++(a,o')::post) own')->G):G :=
 S.eUp u λ pre zz post S q1 q2=>OIn.lstE (motive:=λ o=>c.St h m cm (pre++(a,o)::post) cel frz vals own->G) q1 (λ us j hl S=>k pre us j post S hl q2) S
end
noncomputable abbrev KV:=MV->Vs->Ow->Prop
noncomputable abbrev KB:=Bool->Vs->Ow->Prop
noncomputable abbrev KL:=List MV->Vs->Ow->Prop
inductive FV where
 | nx | br | ct
 | rt (m:MV)
noncomputable abbrev KS:=FV->Vs->Ow->Prop
section
variable {W:Wd} {I:Info} {r:Nat}
noncomputable def Cx.PV (c:Cx W I r) (K:KV) (vs:List Value) (ms:List MV) (Q:Value->Shared->Prop):Prop :=
 ∀v mv s' vals' own',K mv vals' own'->c.At s' vals' own' (v::vs) (mv::ms)->Q v s'
noncomputable def Cx.PB (c:Cx W I r) (K:KB) (vs:List Value) (ms:List MV) (Q:Bool->Shared->Prop):Prop :=
 ∀b s' vals' own',K b vals' own'->c.At s' vals' own' vs ms->Q b s'
noncomputable def Cx.PL (c:Cx W I r) (K:KL) (vs:List Value) (ms:List MV) (Q:List Value->Shared->Prop):Prop :=
 ∀ws l s' vals' own',K l vals' own'->ws.length=l.length->c.At s' vals' own' (ws++vs) (l++ms)->Q ws s'
noncomputable def Cx.FlOk (c:Cx W I r) (s':Shared) (vals:Vs) (own:Ow):Flow->FV->Prop
 | .next,.nx=>c.At s' vals own [] []
 | .brk,.br=>c.At s' vals own [] []
 | .cont,.ct=>c.At s' vals own [] []
 | .ret v,.rt m=>c.At s' vals own [v] [m]
 | _,_=>False
@[elab_as_elim] theorem Cx.FlOk.el {c:Cx W I r} {s':Shared} {vals:Vs} {own:Ow} {fl:Flow} {fv:FV} {motive:Flow->FV->Prop} (ok:c.FlOk s' vals own fl fv) (k1:c.At s' vals own [] []->motive .next .nx) (k2:c.At s' vals own [] []->motive .brk .br) (k3:c.At s' vals own [] []->motive .cont .ct) (k4:∀v m,c.At s' vals own [v] [m]->motive (.ret v) (.rt m)):motive fl fv:=by
 revert ok
 rcases fl with _ | _ | _ | v <;> rcases fv with _ | _ | _ | m <;> first | exact k1 | exact k2 | exact k3 | exact k4 v m | exact False.elim
noncomputable def Cx.PF (c:Cx W I r) (K:KS) (Q:Flow->Shared->Prop):Prop :=
 ∀fl fv s' vals' own',K fv vals' own'->c.FlOk s' vals' own' fl fv->Q fl s'
noncomputable def WE (c:Cx W I r) (e:Expr) (K:KV) (vals:Vs) (own:Ow):Prop :=
 ∀s vs ms Q,c.At s vals own vs ms->c.PV K vs ms Q->wpAny (model PG W.w) c.A (eval e c.env) Q c.E s
noncomputable def WT (c:Cx W I r) (e:Expr) (K:KB) (vals:Vs) (own:Ow):Prop :=
 ∀s vs ms Q,c.At s vals own vs ms->c.PB K vs ms Q->wpAny (model PG W.w) c.A (isTrue e c.env (eval e c.env)) Q c.E s
noncomputable def WA (c:Cx W I r) (es:List Expr) (K:KL) (vals:Vs) (own:Ow):Prop :=
 ∀pos s vs ms Q,c.At s vals own vs ms->c.PL K vs ms Q->wpAny (model PG W.w) c.A (spliced (backTo pos (starEach es c.env))) Q c.E s
noncomputable def WS (c:Cx W I r) (body:List Stmt) (K:KS) (vals:Vs) (own:Ow):Prop :=
 ∀s Q,c.At s vals own [] []->c.PF K Q->wpAny (model PG W.w) c.A (execs body c.env) Q c.E s
noncomputable def WX (c:Cx W I r) (st:Stmt) (K:KS) (vals:Vs) (own:Ow):Prop :=
 ∀s Q,c.At s vals own [] []->c.PF K Q->wpAny (model PG W.w) c.A (exec st c.env) Q c.E s
noncomputable def O1 (c:Cx W I r) (t:Value->Sem Value) (K:KV) (m:MV) (vals:Vs) (own:Ow):Prop :=
 ∀v s vs ms Q,c.At s vals own (v::vs) (m::ms)->c.PV K vs ms Q->wpAny (model PG W.w) c.A (t v) Q c.E s
noncomputable def O1b (c:Cx W I r) (t:Value->Sem Bool) (K:KB) (m:MV) (vals:Vs) (own:Ow):Prop :=
 ∀v s vs ms Q,c.At s vals own (v::vs) (m::ms)->c.PB K vs ms Q->wpAny (model PG W.w) c.A (t v) Q c.E s
noncomputable def O2 (c:Cx W I r) (t:Value->Value->Sem Value) (K:KV) (m1 m2:MV) (vals:Vs) (own:Ow):Prop :=
 ∀v1 v2 s vs ms Q,c.At s vals own (v2::v1::vs) (m2::m1::ms)->c.PV K vs ms Q->wpAny (model PG W.w) c.A (t v1 v2) Q c.E s
noncomputable def ON (c:Cx W I r) (t:List Value->Sem Value) (K:KV) (l:List MV) (vals:Vs) (own:Ow):Prop :=
 ∀ws s vs ms Q,ws.length=l.length->c.At s vals own (ws++vs) (l++ms)->c.PV K vs ms Q->wpAny (model PG W.w) c.A (t ws) Q c.E s
theorem cEnv_kind {L C:Addr} {x:Str}:(cEnv I L C).kindOf x=(cEnv I 0 0).kindOf x:=by unfold cEnv;split <;> rfl
theorem cEnv_fk {L C:Addr}:(cEnv I L C).scope.kind=(cEnv I 0 0).scope.kind:=by unfold cEnv;split <;> rfl
theorem cEnv_cells {L C C':Addr}:(cEnv I L C).cells=(cEnv I L C').cells:=by unfold cEnv;split <;> rfl
theorem cEnv_gl {L C:Addr}:(cEnv I L C).globals=mainGlobals:=by unfold cEnv;split <;> rfl
theorem cEnv_bl {L C:Addr}:(cEnv I L C).builtins=builtinsNs:=by unfold cEnv;split <;> rfl
variable {c:Cx W I r} {vals vals':Vs} {own own':Ow}
theorem Cx.At.push {s:Shared} {vs:List Value} {ms:List MV} {v:Value} {m:MV} (a:c.At s vals own vs ms) (h:∀N,MIn W.w N v m):c.At s vals own (v::vs) (m::ms):=by
 refine Cx.AtI.el a λ g tk m1 cm ob cel frz S hv=>?_
 exact ⟨g,tk,m1,cm,ob,cel,frz,S,.cons (h _) hv⟩
theorem Cx.At.tok {s:Shared} {vs:List Value} {ms:List MV} {k:Nat} (a:c.At s vals own vs ms):c.At {s with toks:=k} vals own vs ms:=by
 refine Cx.AtI.el a λ g tk m1 cm ob cel frz S hv=>?_
 exact ⟨g,k,m1,cm,ob,cel,frz,S,hv⟩
theorem Cx.At.mid {s:Shared} {vs ws:List Value} {ms l:List MV} {v:Value} {m:MV} (a:c.At s vals own (ws++v::vs) (l++m::ms)) (e:ws.length=l.length):c.At s vals own ((v::ws)++vs) ((m::l)++ms) :=
 Cx.AtI.elS a e λ g tk m1 cm ob cel frz S hw hv=>⟨g,tk,m1,cm,ob,cel,frz,S,.cons hv.hd (hw.append hv.tl)⟩
set_option tactic.hygienic true in
theorem WE.name {x:Str} {p:Pos} {mv:MV} {K:KV} (n:Nm I.names vals x mv) (h:K mv vals own) (hd:(x == ("__debug__":Str))=false:=by decide+kernel):WE c (.Name x p) K vals own:=by
 revert c;ctx_has W I r vals own x p mv K
 ctx_has c
 intro s vs ms Q a hQ
 refine Cx.AtI.el a λ g tk m cm ob cel frz S hv=>?_
 refine E2_3 (S.kn.at n) λ b v hm hh hi=>?_
 have kd:=S.k.ok.kd _ hm
 have q:Q v {c.s with heap:=g,toks:=tk}:=hQ v mv _ vals own h ⟨g,tk,m,cm,ob,cel,frz,S,.cons hi hv⟩
 refine wpAny_Name ?_ hd
 have hk:c.env.scope.kind = .function:=cEnv_fk.trans S.k.ok.fk
 have hl:c.env.kindOf x=_:=cEnv_kind.trans kd
 induction b with
 | true =>
  refine E1_2 (S.k.ok.cl _ hm rfl c.L) λ a h1 h2=>?_
  refine E1_2 (cells_look S.cc h2) λ o h3 h4=>?_
  have h5:cm x=some v:=hh
  have hc:c.env.cells.lookup x=some a:=by rw [←h1];exact congrArg (List.lookup x) cEnv_cells
  exact wpAny_loadName_cell hk hl hc ⟨o,(S.N (a,o) (by k_flat)).1,by rw [h4,h5]⟩ q
 | false =>
  unfold Cx.Holds at hh
  split at hh
  · contradiction
  · rename_i e
    refine wpAny_loadName_local (m:=m) hk hl ?_ hh q
    have:c.env.locals=c.L:=by unfold Cx.env cEnv;rw [e]
    rw [this];exact S.F.ns
  · rename_i e
    refine E2_3 hh λ oC m2 h1 h2 h3=>?_;clear hh
    refine wpAny_loadName_local (m:=m2) hk hl ?_ h3 q
    have:c.env.locals=c.C:=by unfold Cx.env cEnv;rw [e];rfl
    rw [this]
    exact h2.ns (S.N (c.C,oC) (by k_flat)).1
theorem WE.int {i:Int} {k:Nat} {p:Pos} {K:KV} (h:K (.int i) vals own):WE c (.Constant (.int i) k p) K vals own :=
 λ zz zz zz zz a hQ=>wpAny_Constant_int (hQ _ _ _ _ _ h (a.tok.push λ zz=>.int _ _))
theorem WE.str {i:Str} {k:Nat} {p:Pos} {K:KV} (h:K (.str i) vals own):WE c (.Constant (.str i) k p) K vals own :=
 λ zz zz zz zz a hQ=>wpAny_Constant_str (hQ _ _ _ _ _ h (a.tok.push λ zz=>.str _ _))
theorem WE.none {k:Nat} {p:Pos} {K:KV} (h:K .none vals own):WE c (.Constant .none k p) K vals own :=
 λ zz zz zz zz a hQ=>wpAny_Constant_none (hQ _ _ _ _ _ h (a.push λ zz=>.none))
theorem WE.bool {b:Bool} {k:Nat} {p:Pos} {K:KV} (h:K (.bool b) vals own):WE c (.Constant (.bool b) k p) K vals own :=
 λ zz zz zz zz a hQ=>wpAny_Constant_bool (hQ _ _ _ _ _ h (a.push λ zz=>.bool _))
noncomputable abbrev kA2 (m:MV) (K:KL):KL:=λ l=>K (m::l)
noncomputable abbrev kA1 (c:Cx W I r) (rest:List Expr) (K:KL):KV:=λ m=>WA c rest (kA2 m K)
theorem WA.nil {K:KL} (h:K [] vals own):WA c [] K vals own:=λ zz zz zz zz zz a hQ=>args_nil (hQ [] [] _ _ _ h rfl a)
theorem WA.cons {e:Expr} {rest:List Expr} {K:KL} (h:WE c e (kA1 c rest K) vals own) (he:autoParam (∀env,starEach (e::rest) env=(false,eval e env)::starEach rest env) aK):WA c (e::rest) K vals own:=by
 intro pos s vs ms Q a hQ
 refine args_cons (h s vs ms _ a λ v mv s1 vals1 own1 hk a1=>?_) (he _)
 exact hk pos s1 _ _ _ a1 λ ws l s2 vals2 own2 hk2 e2 a2=>hQ (v::ws) (mv::l) s2 vals2 own2 hk2 (by simp [e2]) (a2.mid e2)
noncomputable abbrev kCall (c:Cx W I r) (f:Value) (first:List MV) (K:KV):KL:=λ l=>ON c (λ vs=>call f vs) K (first++l)
noncomputable abbrev KH (W:Wd):Frag:=HP W.w.params
theorem Cx.At.in {s:Shared} {vs:List Value} {ms:List MV} (a:c.At s vals own vs ms):(KH W).In s.heap:=by
 refine Cx.AtI.el a λ g tk m cm ob cel frz S hv=>?_
 exact S.k.X.keeps S.F.keep
theorem WE.callK {x:Str} {p p':Pos} {e:Expr} {args:List Expr} {f:Value} {K:KV} (h:WA c (e::args) (kCall c f [] K) vals own) (hf:nsIn (KH W) mainGlobals x=some (some f)) (hk:keepIn (KH W) f=true)
 (hx:(cEnv I 0 0).kindOf x=some .globalImplicit) (he:autoParam (∀env,starEach (e::args) env=(false,eval e env)::starEach args env) aK) (hp:autoParam (∀env,(backTo p (starEach args env)).any (λ zz=>zz.1)=false) aK) (hd:(x == ("__debug__":Str))=false:=by decide+kernel)
 (hc:autoParam (∀env,eval (.Call (.Name x p') (e::args) [] p) env=(do callWith p (←eval (.Name x p') env) [] (backTo p (starEach (e::args) env)) (backToKw p (keywordEach [] env)))) aK) :
 WE c (.Call (.Name x p') (e::args) [] p) K vals own:=by
 intro s vs ms Q a hQ
 refine Call_ ?_ (hc _)
 refine Cx.AtI.el a λ g tk m cm ob cel frz S hv=>?_
 have a0:c.At _ vals own vs ms:=.mk g tk m cm ob cel frz S hv
 have hg:c.env.globals=mainGlobals:=cEnv_gl
 refine Name_function_global (cEnv_fk.trans S.k.ok.fk) (cEnv_kind.trans hx) (loadGlobal_global (mg:=W.mg) (v:=f) (by rw [hg];exact S.k.T.g.keeps S.F.keep) (mg_of S.k.X S.k.T.g hf) ?_) hd
 refine callWith_K S.k.X hk (h p _ _ _ _ a0 λ ws l s' vals' own' hk' e' a'=>⟨a'.in,?_⟩) (he _) (hp _)
 rw [List.nil_append]
 exact hk' ws s' vs ms _ (by trivial) (by trivial) hQ
end
section
variable {W:Wd} {I:Info} {r:Nat}
noncomputable abbrev kSeq (c:Cx W I r) (rest:List Stmt) (K:KS):KS:=λ fv vals own=>match fv with | .nx=>WS c rest K vals own | fv=>K fv vals own
noncomputable def kAsg (c:Cx W I r) (x:Str) (rest:List Stmt) (K:KS):KV:=λ m vals own=>∃b vals',Nt I.names vals x b m vals'/\WS c rest K vals' own
noncomputable abbrev kRet (K:KS):KV:=λ m vals own=>K (.rt m) vals own
noncomputable abbrev kExp (c:Cx W I r) (rest:List Stmt) (K:KS):KV:=λ zz vals own=>WS c rest K vals own
noncomputable abbrev kIf (c:Cx W I r) (b1 b2 rest:List Stmt) (K:KS):KB:=λ b vals own=>match b with | true=>WS c b1 (kSeq c rest K) vals own | false=>WS c b2 (kSeq c rest K) vals own
noncomputable abbrev kNot (K:KB):KB:=λ b vals own=>match b with | true=>K false vals own | false=>K true vals own
noncomputable abbrev kAnd (c:Cx W I r) (rest:List Expr) (pos:Pos) (K:KB):KB:=λ b vals own=>match b with | true=>WT c (.BoolOp .And rest pos) K vals own | false=>K false vals own
noncomputable abbrev kOr (c:Cx W I r) (rest:List Expr) (pos:Pos) (K:KB):KB:=λ b vals own=>match b with | true=>K true vals own | false=>WT c (.BoolOp .Or rest pos) K vals own
noncomputable def kTruth (K:KB):KV:=λ m vals own=>∃b,m = .bool b/\K b vals own
noncomputable def kC2 (c:Cx W I r) (op:CmpOp) (m1:MV) (K:KV):KV:=λ m2 vals own=>O2 c (compareOp op) K m1 m2 vals own
noncomputable abbrev kC1 (c:Cx W I r) (op:CmpOp) (e:Expr) (K:KV):KV:=λ m1 vals own=>WE c e (kC2 c op m1 K) vals own
noncomputable def kB2 (c:Cx W I r) (op:Operator) (m1:MV) (K:KV):KV:=λ m2 vals own=>O2 c (binaryOp op) K m1 m2 vals own
noncomputable abbrev kB1 (c:Cx W I r) (op:Operator) (e:Expr) (K:KV):KV:=λ m1 vals own=>WE c e (kB2 c op m1 K) vals own
noncomputable abbrev kTru (c:Cx W I r) (K:KB):KV:=λ m vals own=>O1b c truthy K m vals own
noncomputable abbrev kAttr (c:Cx W I r) (x:Str) (K:KV):KV:=λ m vals own=>O1 c (λ v=>getAttr v x true) K m vals own
variable {c:Cx W I r} {vals vals':Vs} {own own':Ow}
theorem WS.cons {st:Stmt} {rest:List Stmt} {K:KS} (h:WX c st (kSeq c rest K) vals own):WS c (st::rest) K vals own:=by
 intro s Q a hQ
 refine wpAny_execs_cons (h s _ a λ fl fv s' vals' own' hk ok=>?_)
 revert hk
 exact ok.el (λ a hk=>hk s' Q a hQ) (λ a hk=>hQ _ _ _ _ _ hk a) (λ a hk=>hQ _ _ _ _ _ hk a) λ v m a hk=>hQ _ _ _ _ _ hk a
theorem WS.nil {K:KS} (h:K .nx vals own):WS c [] K vals own:=λ zz zz a hQ=>wpAny_execs_nil (hQ .next .nx _ _ _ h a)
theorem kSeq.nx {rest:List Stmt} {K:KS} (h:WS c rest K vals own):kSeq c rest K .nx vals own:=h
theorem WS.ret {e:Expr} {p:Pos} {rest:List Stmt} {K:KS} (h:WE c e (kRet K) vals own):WS c (.Return (some e) p::rest) K vals own:=by
 refine WS.cons λ s Q a hQ=>wpAny_Return_some (h s [] [] _ a λ v mv s' vals' own' hk a'=>?_)
 exact hQ (.ret v) (.rt mv) _ _ _ hk a'
theorem WS.exp {e:Expr} {p:Pos} {rest:List Stmt} {K:KS} (h:WE c e (kExp c rest K) vals own) (hi:autoParam (∀L C,interactive (cEnv I L C)=false) aK) (hs:autoParam (∀env,swapsWith e Option.none p.line env=pure false) aK):WS c (.Expr e p::rest) K vals own:=by
 refine WS.cons λ s Q a hQ=>wpAny_Expr_any (h s [] [] _ a λ v mv s' vals' own' hk a'=>?_) (hi _ _) (hs _)
 refine Cx.AtI.el a' λ g tk m cm ob cel frz S hv=>?_
 cases hv with
 | cons zz hv=>exact hQ .next .nx _ _ _ hk ⟨g,tk,m,cm,ob,cel,frz,S,hv⟩
theorem WS.ite {e:Expr} {b1 b2:List Stmt} {p:Pos} {rest:List Stmt} {K:KS} (h:WT c e (kIf c b1 b2 rest K) vals own):WS c (.If e b1 b2 p::rest) K vals own:=by
 refine WS.cons λ s Q a hQ=>wpAny_If (h s [] [] _ a λ b s' vals' own' hk a'=>?_)
 induction b with
 | true=>exact hk s' Q a' hQ
 | false=>exact hk s' Q a' hQ
theorem kIf.t {b1 b2 rest:List Stmt} {K:KS} (h:WS c b1 (kSeq c rest K) vals own):kIf c b1 b2 rest K true vals own:=h
theorem kIf.f0 {b1 rest:List Stmt} {K:KS} (h:WS c rest K vals own):kIf c b1 [] rest K false vals own:=WS.nil (kSeq.nx h)
theorem kNot.t {K:KB} (h:K false vals own):kNot K true vals own:=h
theorem kNot.f {K:KB} (h:K true vals own):kNot K false vals own:=h
theorem kTruth.b {K:KB} {b:Bool} (h:K b vals own):kTruth K (.bool b) vals own:=⟨b,rfl,h⟩
theorem WT.not {e:Expr} {p:Pos} {K:KB} (h:WT c e (kNot K) vals own):WT c (.UnaryOp .Not e p) K vals own:=by
 intro s vs ms Q a hQ
 refine isTrue_not (h s vs ms _ a λ b s' vals' own' hk a'=>?_)
 cases b <;> exact hQ _ _ _ _ hk a'
theorem WT.andN {p:Pos} {K:KB} (h:K true vals own):WT c (.BoolOp .And [] p) K vals own:=λ zz zz zz zz a hQ=>isTrue_and_nil (hQ _ _ _ _ h a)
theorem WT.orN {p:Pos} {K:KB} (h:K false vals own):WT c (.BoolOp .Or [] p) K vals own:=λ zz zz zz zz a hQ=>isTrue_or_nil (hQ _ _ _ _ h a)
theorem WT.and {e:Expr} {rest:List Expr} {p:Pos} {K:KB} (h:WT c e (kAnd c rest p K) vals own):WT c (.BoolOp .And (e::rest) p) K vals own:=by
 intro s vs ms Q a hQ
 refine isTrue_and (h s vs ms _ a λ b s' vals' own' hk a'=>?_)
 revert hk
 exact b.casesOn (λ hk=>hQ _ _ _ _ hk a') λ hk=>hk s' vs ms Q a' hQ
theorem WT.or {e:Expr} {rest:List Expr} {p:Pos} {K:KB} (h:WT c e (kOr c rest p K) vals own):WT c (.BoolOp .Or (e::rest) p) K vals own:=by
 intro s vs ms Q a hQ
 refine isTrue_or (h s vs ms _ a λ b s' vals' own' hk a'=>?_)
 revert hk
 exact b.casesOn (λ hk=>hk s' vs ms Q a' hQ) λ hk=>hQ _ _ _ _ hk a'
theorem Cx.At.drop {s:Shared} {vs:List Value} {ms:List MV} {v:Value} {m:MV} (a:c.At s vals own (v::vs) (m::ms)):c.At s vals own vs ms:=by
 refine Cx.AtI.el1 a λ g tk m1 cm ob cel frz S zz hv=>?_;exact ⟨g,tk,m1,cm,ob,cel,frz,S,hv⟩
theorem Cx.At.inv {s:Shared} {vs:List Value} {ms:List MV} {v:Value} {m:MV} (a:c.At s vals own (v::vs) (m::ms)):∃N,MIn W.w N v m :=
 Cx.AtI.el1 a λ zz zz zz zz zz zz frz zz h zz=>⟨frz,h⟩
theorem O1b.bool {K:KB} {b:Bool} (h:K b vals own):O1b c truthy K (.bool b) vals own:=by
 intro v s vs ms Q a hQ
 obtain ⟨N,hi⟩:=a.inv
 refine hi.boolE ?_
 exact wpAny_truthy_bool (hQ _ _ _ _ h a.drop)
theorem WT.plain {e:Expr} {K:KB} (h:WE c e (kTru c K) vals own) (he:autoParam (∀env whole,isTrue e env whole=(do let v ← whole;standAt e.pos;holding [v] (truthy v))) aK):WT c e K vals own:=by
 intro s vs ms Q a hQ
 exact isTrue_plain (h s vs ms _ a λ v mv s' vals' own' hk a'=>hk v s' vs ms Q a' hQ) (he _ _)
theorem WT.cmp {l r':Expr} {op:CmpOp} {p:Pos} {K:KB} (h:WE c l (kC1 c op r' (kTruth K)) vals own) (hm:autoParam (behindInMarks op r'=false) aK):WT c (.Compare l [op] [r'] p) K vals own:=by
 intro s vs ms Q a hQ
 refine wpAny_isTrue_Compare1 (h s vs ms _ a λ v mv s' vals' own' hk a'=>?_) hm
 refine hk s' _ _ _ a' λ v2 mv2 s2 vals2 own2 hk2 a2=>?_
 refine hk2 v v2 s2 vs ms _ a2 λ v3 mv3 s3 vals3 own3 hk3 a3=>?_
 refine E1_2 hk3 λ b e0_1 hb=>?_
 have a4:=hQ _ _ _ _ hb a3.drop
 exact Exists.elim a3.inv λ N hi=>(e0_1 ▸ hi:MIn W.w N v3 (.bool b)).boolE (wpAny_truthy_bool a4)
theorem WE.cmp {l r':Expr} {op:CmpOp} {p:Pos} {K:KV} (h:WE c l (kC1 c op r' K) vals own) (hm:autoParam (behindInMarks op r'=false) aK):WE c (.Compare l [op] [r'] p) K vals own:=by
 intro s vs ms Q a hQ
 refine wpAny_Compare1 (h s vs ms _ a λ v mv s' vals' own' hk a'=>?_) hm
 refine hk s' _ _ _ a' λ v2 mv2 s2 vals2 own2 hk2 a2=>?_
 exact hk2 v v2 s2 vs ms _ a2 hQ
theorem WE.bin {l r':Expr} {op:Operator} {p:Pos} {K:KV} (h:WE c l (kB1 c op r' K) vals own):WE c (.BinOp l op r' p) K vals own:=by
 intro s vs ms Q a hQ
 refine wpAny_BinOp (h s vs ms _ a λ v mv s' vals' own' hk a'=>?_)
 refine hk s' _ _ _ a' λ v2 mv2 s2 vals2 own2 hk2 a2=>?_
 exact hk2 v v2 s2 vs ms _ a2 hQ
theorem Cx.St.loc {h h':Heap} {m cm:Str->Option Value} {ob cel frz:Lg} {x:Str} {v:Value} {mv:MV} (S:c.St h m cm ob cel frz vals own) (hcp:I.cp=none) (t:Nt I.names vals x false mv vals') (hv:MIn W.w frz v mv)
 (F':Fr c.h₀ c.L h' (λ y=>if y=x then some v else m y)) (N':News c.h₀ c.L h' (c.all ob cel frz)):c.St h' (λ y=>if y=x then some v else m y) cm ob cel frz vals' own where
 F:=F'
 N:=N'
 k:=S.k
 nd:=S.nd
 ao:=S.ao
 af:=S.af
 ow:=S.ow
 cc:=S.cc
 kn:=S.kn.put hv (by unfold Cx.Holds;rw [hcp];simp) (λ zz zz zz hn=>Cx.Holds.locU hn) S.k.ok.nd t
 hi:=S.hi
 fx:=S.fx
 fm:=λ q=>absurd hcp q
theorem WX.store {x:Str} {b:Bool} {mv:MV} {K:Unit->Shared->Prop} {s:Shared} {vs:List Value} {ms:List MV} {v:Value} (hcp:I.cp=none) (t:Nt I.names vals x b mv vals') (a:c.At s vals own (v::vs) (mv::ms))
 (h:∀s',c.At s' vals' own vs ms->K () s'):wpAny (model PG W.w) c.A (storeName c.env x v) K c.E s:=by
 revert c;ctx_has W I r vals vals' own x b mv K s vs ms v
 ctx_has c
 refine Cx.AtI.el1 a λ g tk m cm ob cel frz S hi hv=>?_
 ctx_has g tk m cm ob cel frz
 have kd:=S.k.ok.kd _ t.mem
 have he:c.env=fEnv I c.L:=by unfold Cx.env cEnv;rw [hcp]
 have hl:c.env.kindOf x=_:=cEnv_kind.trans kd
 induction b with
 | false =>
  rw [he] at hl ⊢
  refine storeX_L S.F S.N (λ h' F' N'=>h _ ⟨h',tk+1,_,cm,ob,cel,frz,S.loc hcp t hi F' N',hv⟩) S.k.ok.hk hl
 | true =>
  refine E1_2 (S.k.ok.cl _ t.mem rfl c.L) λ a h1 h2=>?_
  ctx_has a
  have hnd:((cellsFrom (c.L+1) I.cs.names []).map (λ zz=>zz.1)).Nodup:=by rw [cellsFrom_nd I.cs.names (c.L+1) 0 [] [] rfl];exact S.k.ok.cnd
  refine E3_3 (cells_upd S.cc hnd h2) λ pre o post e2_3 ho up=>?_;ctx_has pre o post;subst e2_3
  have hk:c.env.scope.kind = .function:=cEnv_fk.trans S.k.ok.fk
  have hc:c.env.cells.lookup x=some a:=by rw [←h1];exact congrArg (List.lookup x) cEnv_cells
  have hN:=S.N (a,o) (by simp)
  have off:(∀p∈ob++pre,p.1≠a)/\∀p∈post++(c.old++frz),p.1≠a:=by
   have nd:=S.nd
   have e:ob++(pre++(a,o)::post)=(ob++pre)++(a,o)::(post++[]):=by simp
   rw [e] at nd
   obtain ⟨q1,q2⟩:=nd_split (pre:=ob++pre) (post:=post) (rest:=[]) (o:=o) (by simpa using nd)
   refine ⟨q1,λ p hp=>?_⟩
   ctx_has p
   simp only [mem_append] at hp
   rcases hp with q | q | q
   · exact q2 p (by k_flat)
   · exact Ne.symm (S.ao (a,o) (by simp) p q)
   · exact Ne.symm (S.af (a,o) (by simp) p q)
  refine wpAny_storeName_cell hk hl hc ⟨o,hN.1,ho⟩ λ h' hv' hs=>?_
  ctx_has h'
  refine E1_2 hv' λ o' ho' hd'=>?_;ctx_has o';clear hv'
  have N':News c.h₀ c.L h' (c.all ob (pre++(a,o')::post) frz):=by
   have e1:c.all ob (pre++(a,o)::post) frz=(ob++pre)++(a,o)::(post++(c.old++frz)):=by simp [Cx.all]
   have e2:c.all ob (pre++(a,o')::post) frz=(ob++pre)++(a,o')::(post++(c.old++frz)):=by simp [Cx.all]
   rw [e2]
   have:=S.N
   rw [show ob++((pre++(a,o)::post)++(c.old++frz))=(ob++pre)++(a,o)::(post++(c.old++frz)) by trivial] at this
   exact this.setAt off.1 off.2 hs ho'
  have F':Fr c.h₀ c.L h' m:=⟨S.F.ns.sameBut hs (Ne.symm hN.2.1),λ b ob e=>(hs.2 b (λ q=>by rw [q,hN.2.2] at e;f_shut e)).trans (S.F.keep b ob e),S.F.above⟩
  refine h _ ⟨h',tk,m,_,ob,pre++(a,o')::post,frz,⟨S.k,F',N',?_,?_,?_,S.ow,up o' v hd',S.kn.put hi (by unfold Cx.Holds;simp) (λ zz zz zz hn=>Cx.Holds.cellU hn) S.k.ok.nd t,S.hi,S.fx,λ q=>absurd hcp q⟩,hv⟩
  · have:=S.nd;simpa using this
  · intro p hp q hq
    simp only [mem_append,mem_cons] at hp
    rcases hp with hp | hp | hp | hp
    · exact S.ao p (by k_flat) q hq
    · exact S.ao p (by k_flat) q hq
    · rw [hp];exact S.ao (a,o) (by simp) q hq
    · exact S.ao p (by k_flat) q hq
  · intro p hp q hq
    revert hp;ctx_has p q
    simp only [mem_append,mem_cons] at hp
    rcases hp with hp | (hp | hp | hp) | hp
    · exact S.af p (by k_flat) q hq
    · exact S.af p (by k_flat) q hq
    · rw [hp];exact S.af (a,o) (by simp) q hq
    · exact S.af p (by k_flat) q hq
    · exact S.af p (by k_flat) q hq
theorem WS.asg {x:Str} {e:Expr} {p p':Pos} {rest:List Stmt} {K:KS} (h:WE c e (kAsg c x rest K) vals own) (hcp:autoParam (I.cp=none) aK) (hs:autoParam (∀env,swapsWith e (some (.Name x p')) p.line env=pure false) aK):WS c (.Assign [.Name x p'] e p::rest) K vals own:=by
 intro s Q a hQ
 refine wpAny_execs_cons (wpAny_Assign_Name (h s [] [] _ a λ v mv s' vals' own' hk a'=>?_) (hs _))
 refine E2_2 hk λ b vals2 t hw=>?_;clear hk
 exact WX.store hcp t a' λ s2 a2=>hw s2 Q a2 hQ
theorem kAsg.mk {x:Str} {b:Bool} {rest:List Stmt} {K:KS} {mv:MV} (t:Nt I.names vals x b mv vals') (h:WS c rest K vals' own):kAsg c x rest K mv vals own:=⟨b,vals',t,h⟩
end
noncomputable def TlF (W:Wd) (hb:Bool) (f:Addr) (r:Nat) (args:List MV) (own:Ow) (Post:MV->Ow->Prop) (fz:Lg):Prop :=
 ∀ (hh:Option Value) (dp un:Nat) (gd:Option (List Code)) (cn:Str) (cs:Scope) (a:Addr) (ccd:Value) (cl:List (Str×Addr)) (outer:List Env) (A₀:Around) (base h₀:Heap) (L:Addr) (m:Str->Option Value) (s:Shared) (R:Result->Shared->Prop)
  (ob kp:Lg) (vs:List Value),
  (hb=false->hh=none)->HIn hh (kp++fz)->Below A₀ base outer h₀->Fr h₀ L s.heap m->(KH W).In h₀->News h₀ L s.heap (ob++(kp++fz))->(ob.map (λ zz=>zz.1)).Nodup->(∀p∈ob,∀q∈kp,p.1≠q.1)->(∀p∈ob++kp,∀q∈fz,p.1≠q.1) ->
  OAll W.w fz ob own->MAll W.w fz vs args->TopV W h₀->cs.kind = .function->dp+r < recursionLimit->un+8 * r < cLine ->
  (∀v mv own' ob' fz' h' tk',Post mv own'->Fr h₀ L h' m->News h₀ L h' (ob'++(kp++fz'))->(ob'.map (λ zz=>zz.1)).Nodup->(∀p∈ob',∀q∈kp,p.1≠q.1)->Ext fz fz'->(∀p∈ob'++kp,∀q∈fz',p.1≠q.1)->OAll W.w fz' ob' own'->MIn W.w fz' v mv->R (.ok (.ret v)) {s with heap:=h',toks:=tk'}) ->
  codeAny (model PG W.w) ({handled:=hh,depth:=dp,frames:=some (envX cn cs L a ccd cl::outer),guards:=gd,units:=un}:Around) (.call (.ref f) ⟨vs,[]⟩) R s
noncomputable def Tl (W:Wd) (hb:Bool) (f:Addr) (r:Nat) (args:List MV) (own:Ow) (Post:MV->Ow->Prop):Prop:=∀fz,TlF W hb f r args own Post fz
noncomputable abbrev Rd (W:Wd) (hb:Bool) (f:Addr) (r:Nat) (args:List MV) (own:Ow) (mv:MV):Prop:=Tl W hb f r args own λ m o=>m=mv/\o=own
noncomputable abbrev Md (W:Wd) (hb:Bool) (f:Addr) (r:Nat) (args:List MV) (own own':Ow) (mv:MV):Prop:=Tl W hb f r args own λ m o=>m=mv/\o=own'
theorem Tl.up {W:Wd} {hb:Bool} {f:Addr} {r r':Nat} {args:List MV} {own:Ow} {Post:MV->Ow->Prop} (h:Tl W hb f r args own Post) (hr:r<=r'):Tl W hb f r' args own Post :=
 λ fz hh zz zz zz zz zz zz zz zz zz zz zz zz zz zz zz zz ob kp vs a1 a2 a3 a4 a5 a6 a7 a8 a9 b1 b2 b3 b4 b5 b6 b7=>h fz hh _ _ _ _ _ _ _ _ _ _ _ _ _ _ _ _ ob kp vs a1 a2 a3 a4 a5 a6 a7 a8 a9 b1 b2 b3 b4 (by lia) (by lia) b7
theorem Tl.mono {W:Wd} {hb:Bool} {f:Addr} {r:Nat} {args:List MV} {own:Ow} {Post Post':MV->Ow->Prop} (h:Tl W hb f r args own Post) (hm:∀m o,Post m o->Post' m o):Tl W hb f r args own Post' :=
 λ fz hh zz zz zz zz zz zz zz zz zz zz zz zz zz zz zz zz ob kp vs a1 a2 a3 a4 a5 a6 a7 a8 a9 b1 b2 b3 b4 b5 b6 b7=>h fz hh _ _ _ _ _ _ _ _ _ _ _ _ _ _ _ _ ob kp vs a1 a2 a3 a4 a5 a6 a7 a8 a9 b1 b2 b3 b4 b5 b6 λ v mv own' ob' fz' h' tk' hP=>b7 v mv own' ob' fz' h' tk' (hm _ _ hP)
section
variable {W:Wd} {I:Info} {r:Nat} {c:Cx W I r} {vals vals':Vs} {own own':Ow}
theorem Cx.St.back {h h':Heap} {m cm:Str->Option Value} {ob ob' cel frz frz':Lg} (S:c.St h m cm ob cel frz vals own) (F':Fr c.h₀ c.L h' m) (N':News c.h₀ c.L h' (ob'++((cel++c.old)++frz'))) (nd':(ob'.map (λ zz=>zz.1)).Nodup) (ao':∀p∈ob',∀q∈cel++c.old,p.1≠q.1) (he:Ext frz frz')
 (hf:∀p∈ob'++(cel++c.old),∀q∈frz',p.1≠q.1) (ho:OAll W.w frz' ob' own'):c.St h' m cm ob' cel frz' vals own' where
 F:=F'
 N:=by simpa using N'
 k:=S.k
 nd:=by
  have:=S.nd
  rw [map_append,nodup_append] at this ⊢
  refine ⟨nd',this.2.1,λ x hx y hy=>?_⟩
  refine E1_2 (mem_map.mp hx) λ p hp e0_2=>?_;subst e0_2
  refine E1_2 (mem_map.mp hy) λ q hq e1_2=>?_;subst e1_2
  exact ao' p hp q (mem_append_left _ hq)
 ao:=λ p hp q hq=>(mem_append.mp hp).elim (λ hp=>ao' p hp q (mem_append_right _ hq)) λ hp=>S.ao p (mem_append_right _ hp) q hq
 af:=hf
 ow:=ho
 cc:=S.cc
 kn:=S.kn.mono he
 hi:=S.hi.mono λ p hp=>(mem_append.mp hp).elim (λ a=>mem_append_left _ a) λ a=>mem_append_right _ (he p a)
 fx:=λ p hp=>he p (S.fx p hp)
 fm:=S.fm
theorem kCall.use {hb:Bool} {f:Addr} {r':Nat} {first args:List MV} {Post:MV->Ow->Prop} {K:KV} (C:Tl W hb f r' (first++args) own Post) (hr:autoParam (r'<=r) aD) (hhb:autoParam (hb=true\/I.hb=false) aI)
 (h:∀mv own',Post mv own'->K mv vals own'):kCall c (.ref f) first K args vals own:=by
 intro ws s vs ms Q e a hQ
 refine Cx.AtI.elS a e λ g tk m cm ob cel frz S hw hv=>?_
 have hnd:=S.nd
 rw [map_append,nodup_append] at hnd
 have hd:=S.k.hd
 have hu:=S.k.hu
 refine wpAny_call (C frz c.hh c.dp c.un c.gd I.cn I.cs I.a I.ccd (cellsFrom (c.L+1) I.cs.names []) c.outer c.A₀ c.base c.h₀ c.L m _ _ ob (cel++c.old) ws (λ q=>?_) (S.hi.mono λ p hp=>?_) S.k.B S.F S.k.X (by simpa using S.N) hnd.1 (λ p hp q hq=>?_) S.af S.ow hw S.k.T S.k.ok.hk (by lia) (by lia) ?_)
 · rcases hhb with x | x
   · rw [x] at q;f_shut q
   · exact S.k.hhb x
 · kso_open hp
 · rcases mem_append.mp hq with hq | hq
   · exact hnd.2.2 _ (mem_map.mpr ⟨p,hp,rfl⟩) _ (mem_map.mpr ⟨q,hq,rfl⟩)
   · exact S.ao p (by k_flat) q hq
 · intro v mv own' ob' fz' h' tk' hP F' N' nd' ao' he hf ho hi
   exact hQ v mv _ vals own' (h mv own' hP) ⟨h',tk',m,cm,ob',cel,fz',S.back F' N' nd' ao' he hf ho,.cons hi (hv.mono he)⟩
theorem kCall.rd {hb:Bool} {f:Addr} {r':Nat} {first args:List MV} {mv:MV} {K:KV} (C:Rd W hb f r' (first++args) own mv) (h:K mv vals own) (hr:autoParam (r'<=r) aD) (hhb:autoParam (hb=true\/I.hb=false) aI) :
 kCall c (.ref f) first K args vals own:=kCall.use C hr hhb λ _ _ ⟨e1,e2⟩=>e1 ▸ e2 ▸ h
theorem kCall.md {hb:Bool} {f:Addr} {r':Nat} {first args:List MV} {mv:MV} {K:KV} (C:Md W hb f r' (first++args) own own' mv) (h:K mv vals own') (hr:autoParam (r'<=r) aD) (hhb:autoParam (hb=true\/I.hb=false) aI) :
 kCall c (.ref f) first K args vals own:=kCall.use C hr hhb λ _ _ ⟨e1,e2⟩=>e1 ▸ e2 ▸ h
end
noncomputable def OV.mv:OV->MV
 | .lst ms=>.lst ms
 | .dct kvs=>.dct kvs
 | .ict kvs=>.ict kvs
 | _=>.none
inductive OV.frz:OV->Prop
 | lst {ms}:OV.frz (.lst ms)
 | dct {kvs}:OV.frz (.dct kvs)
 | ict {kvs}:OV.frz (.ict kvs)
inductive Relax:Ow->MV->Ow->MV->Prop
 | refl {own mv}:Relax own mv own mv
 | drop {p own mv own' mv'}:Relax own mv own' mv'->Relax (p::own) mv own' mv'
 | frz {a ov own own' mv'}:OV.frz ov->Relax own ov.mv own' mv'->Relax ((a,ov)::own) (.ptr a) own' mv'
 | obj {a C dx fs own own' mv'}:Relax own (.inst C fs) own' mv'->Relax ((a,.obj C dx)::(dx,.fld fs)::own) (.ptr a) own' mv'
theorem OIn.frz {w:World} {N:Lg} {a:Addr} {o:Obj} {ov:OV} (h:OIn w N a o ov) (f:OV.frz ov):∀N',Ext N N'->(a,o)∈N'->MIn w N' (.ref a) ov.mv:=by
 intro N' hs
 induction f with
 | lst=>exact h.lstE λ zz zz h hm=>.lst hm (h.mono hs)
 | dct=>exact h.dctE λ zz a b h hm=>.dct hm a b (h.mono hs)
 | ict=>exact h.ictE λ zz a b h hm=>.ict hm a b (h.mono hs)
theorem MIn.ptr_eq {w:World} {N:Lg} {v:Value} {a:Addr} (h:MIn w N v (.ptr a)):v = .ref a:=h.inv
theorem Relax.at {w:World} {own own':Ow} {mv mv':MV} (x:Relax own mv own' mv'):∀ {ob fz:Lg} {v:Value},OAll w fz ob own->MIn w fz v mv->∃X ob',(∀p,p∈X++ob'↔p∈ob)/\(ob.map (λ zz=>zz.1)).Perm ((X++ob').map (λ zz=>zz.1))/\OAll w (X++fz) ob' own'/\MIn w (X++fz) v mv':=by
 induction x with
 | refl=>intro ob fz v ho hi;exact ⟨[],ob,λ zz=>Iff.rfl,.refl _,ho,hi⟩
 | @drop p _ _ _ _ x ih =>
  intro ob fz v ho hi
  refine ho.cp λ o ob h1 h2=>?_
  refine E2_4 (ih h2 hi) λ X ob' e ep q1 q2=>?_
  refine ⟨(p.1,o)::X,ob',λ q=>?_,?_,q1.mono λ p hp=>.tail _ hp,q2.mono λ p hp=>.tail _ hp⟩
  · rw [cons_append,mem_cons,mem_cons,e]
  · simpa using ep
 | @frz a ov own own1 mv1 f x ih =>
  intro ob fz v ho hi
  refine hi.ptrE ?_
  refine ho.cn λ o ob h1 h2=>?_
  refine E2_4 (ih (fz:=(a,o)::fz) (v:=.ref a) (h2.mono λ p hp=>.tail _ hp) (h1.frz f _ (λ p hp=>.tail _ hp) (.head _))) λ X ob' e ep q1 q2=>?_
  have hs:Ext (X++(a,o)::fz) (((a,o)::X)++fz):=λ p hp=>by simp only [mem_append,mem_cons] at hp ⊢;rcases hp with q | q | q <;> simp [q]
  refine ⟨(a,o)::X,ob',λ p=>?_,?_,q1.mono hs,q2.mono hs⟩
  · rw [cons_append,mem_cons,mem_cons,e]
  · simpa using ep
 | @obj a C a2 fs own own1 mv1 x ih =>
  intro ob fz v ho hi
  refine hi.ptrE ?_
  refine ho.cn λ o ob h1 h2=>h1.objE (h2.cn λ o2 ob h3 h4=>h3.fldE λ es k h3=>?_)
  refine E2_4 (ih (fz:=(a,instObj C a2)::(a2,dictOf es k)::fz) (v:=.ref a) (h4.mono λ p hp=>.tail _ (.tail _ hp)) (.inst (.head _) (.tail _ (.head _)) (h3.mono λ p hp=>.tail _ (.tail _ hp)))) λ X ob' e ep q1 q2=>?_
  refine ⟨(a,instObj C a2)::(a2,dictOf es k)::X,ob',λ p=>?_,?_,q1.mono λ p hp=>?_,q2.mono λ p hp=>?_⟩
  · simp only [cons_append,mem_cons,e]
  · simpa using ep
  all_goals
   simp only [mem_append,mem_cons] at hp ⊢;rcases hp with q | q | q | q <;> simp [q]
noncomputable def kFin (_own₀:Ow) (Post:MV->Ow->Prop):KS:=λ fv zz own=>∃mv own' mv',(match fv with | .rt m=>mv=m | .nx=>mv = .none | _=>False)/\Relax own mv own' mv'/\Post mv' own'
inductive Ini:List Str->List MV->List (Str×Bool)->Vs->Prop
 | nil:Ini [] [] [] []
 | none {n ns vs}:Ini [] [] ns vs->Ini [] [] (n::ns) (none::vs)
 | arg {p:Str} {b:Bool} {ps:List Str} {m ms ns vs}:Ini ps ms ns vs->Ini (p::ps) (m::ms) ((p,b)::ns) (some m::vs)
theorem bindL_off {k:Str->Option NameKind} {x:Str}:∀ {l:List (Str×Value)} {m:Str->Option Value},x∉l.map (λ zz=>zz.1)->bindL k l m x=m x
 | [],_,_=>rfl
 | p::r,m,h=>by
  unfold bindL
  rw [bindL_off λ q=>h (.tail _ q)]
  split
  · exact if_neg λ e=>h (by rw [e];exact .head _)
  · rfl
theorem bindC_off {k:Str->Option NameKind} {x:Str}:∀ {l:List (Str×Value)} {m:Str->Option Value},x∉l.map (λ zz=>zz.1)->bindC k l m x=m x
 | [],_,_=>rfl
 | p::r,m,h=>by
  unfold bindC
  rw [bindC_off λ q=>h (.tail _ q)]
  split
  · rfl
  · exact if_neg λ e=>h (by rw [e];exact .head _)
theorem bindL_at {k:Str->Option NameKind} {x:Str} {v:Value} (hk:k x=some .local):∀ {l:List (Str×Value)} {m:Str->Option Value},(l.map (λ zz=>zz.1)).Nodup->(x,v)∈l->bindL k l m x=some v
 | p::r,m,nd,hm=>by
  rw [map_cons,nodup_cons] at nd
  unfold bindL
  rcases mem_cons.mp hm with e | hm
  · subst e
    rw [bindL_off nd.1,if_pos hk];exact if_pos rfl
  · exact bindL_at hk nd.2 hm
theorem bindC_at {k:Str->Option NameKind} {x:Str} {v:Value} (hk:k x≠some .local):∀ {l:List (Str×Value)} {m:Str->Option Value},(l.map (λ zz=>zz.1)).Nodup->(x,v)∈l->bindC k l m x=some v
 | p::r,m,nd,hm=>by
  rw [map_cons,nodup_cons] at nd
  unfold bindC
  rcases mem_cons.mp hm with e | hm
  · subst e
    rw [bindC_off nd.1,if_neg hk];exact if_pos rfl
  · exact bindC_at hk nd.2 hm
theorem Ini.kn {W:Wd} {I:Info} {r:Nat} {c:Cx W I r} {m cm:Str->Option Value} {N:Lg}:∀ {ps:List Str} {ms:List MV} {ns:List (Str×Bool)} {vals:Vs} {vs:List Value},Ini ps ms ns vals->MAll W.w N vs ms->(∀p∈ps.zip vs,∀b,(p.1,b)∈ns->c.Holds m cm b p.1 p.2)->c.Kn m cm N ns vals:=by
 intro ps ms ns vals vs h
 induction h generalizing vs with
 | nil=>intro zz zz;exact .nil
 | none zz ih=>intro hv hh;exact .none (ih hv λ p hp b hb=>hh p hp b (.tail _ hb))
 | arg zz ih =>
  exact λ hv=>All2.cn hv λ v vs h1 h2 hh=>.some (hh _ (.head _) _ (.head _)) h1 (ih h2 λ p hp b hb=>hh p (.tail _ hp) b (.tail _ hb))
theorem enter_core {W:Wd} {hb:Bool} {f:Addr} {r:Nat} {args:List MV} {own:Ow} {fz:Lg} {name qual:Str} {params:Arguments} {body:List Stmt} {scope:Scope} {dV kV doc pm cdv ct oc:Value} {an od:Option Addr} {osl:Array (Option Value)} (names:List (Str×Bool)) {vals:Vs} {ps:List Str} {dfs:List Value} {dms:List MV}
 (ho:(KH W).lookup f=some ⟨oc,od,.func (fnOf name qual params body scope dV kV doc pm an cdv ct),osl⟩) (hcd:codeIn (KH W) cdv qual=true) (hdf:∀N,MAll W.w N dfs dms) (hini:Ini ps (args++dms) names vals) (ok:OkI ⟨qual,scope,f,cdv,names,hb,none⟩)
 (hbind:∀ (s:Shared) (vs:List Value),(KH W).In s.heap->vs.length=args.length->BindsTo s (fnOf name qual params body scope dV kV doc pm an cdv ct) ⟨vs,[]⟩ (ps.zip (vs++dfs))) (hco:scope.isCoroutine=false) (hgen:scope.isGenerator=false)
 {hh:Option Value} {dp un:Nat} {gd:Option (List Code)} {cn:Str} {cs:Scope} {a:Addr} {ccd:Value} {cl:List (Str×Addr)} {outer:List Env} {A₀:Around} {base h₀:Heap} {L:Addr} {m:Str->Option Value} {s:Shared} {R:Result->Shared->Prop} {ob kp:Lg} {vs:List Value}
 (a1:hb=false->hh=none) (a2:HIn hh (kp++fz)) (B:Below A₀ base outer h₀) (F:Fr h₀ L s.heap m) (X:(KH W).In h₀) (N:News h₀ L s.heap (ob++(kp++fz))) (nd:(ob.map (λ zz=>zz.1)).Nodup) (ao:∀p∈ob,∀q∈kp,p.1≠q.1) (af:∀p∈ob++kp,∀q∈fz,p.1≠q.1)
 (ow:OAll W.w fz ob own) (hv0:MAll W.w fz vs args) (T:TopV W h₀) (hk:cs.kind = .function) (hd:dp+(r+1) < recursionLimit) (hu:un+8 * (r+1) < cLine)
 (h:∀ (c:Cx W ⟨qual,scope,f,cdv,names,hb,none⟩ r) (s₁:Shared),c.fz=fz->c.old=kp->c.s=s->c.outer=envX cn cs L a ccd cl::outer->c.base=base->c.hh=hh->c.A=c.A₀.deeper c.env->Fr h₀ L c.h₀ m->c.At s₁ vals own [] [] ->
  (∀e s',wpAny (model PG W.w) c.A (leaving c.env e) (λ zz s''=>R (.error e) s'') (λ e' s''=>R (.error e') s'') s'->c.E e s') ->
  wpAny (model PG W.w) c.A (execs body c.env) (λ fl s'=>LeaveK h₀ L m c.h₀ R (match fl with | .ret v=>v | _=>.none) s') c.E s₁) :
 codeAny (model PG W.w) ({handled:=hh,depth:=dp,frames:=some (envX cn cs L a ccd cl::outer),guards:=gd,units:=un}:Around) (.call (.ref f) ⟨vs,[]⟩) R s:=by
 have hlen:∀ {ps:List Str} {ms:List MV} {ns:List (Str×Bool)} {vals:Vs},Ini ps ms ns vals->ps.length=ms.length/\∀p∈ps,∃b,(p,b)∈ns:=by
  intro ps ms ns vals h
  induction h with
  | nil=>exact ⟨rfl,λ zz h=>nomatch h⟩
  | none zz ih=>exact ⟨ih.1,λ zz h=>nomatch h⟩
  | arg zz ih=>exact ⟨by simp [*],λ p hp=>by
   rcases mem_cons.mp hp with rfl | hp
   · exact ⟨_,.head _⟩
   · exact (ih.2 p hp).imp λ b q=>.tail _ q⟩
 obtain ⟨l1,l2⟩:=hlen hini
 have hvl0:vs.length=args.length:=hv0.length
 have hv:=hv0.append (hdf fz)
 have hbd:=hbind s vs (X.keeps F.keep) hvl0
 have hvl:(vs++dfs).length=(args++dms).length:=hv.length
 have hz:(ps.zip (vs++dfs)).map (λ zz=>zz.1)=ps:=by rw [List.map_fst_zip];simp+arith [*]
 have hkd:∀p∈ps.zip (vs++dfs),scope.names.lookup p.1=some .local\/scope.names.lookup p.1=some .cell:=λ p hp=>by
  obtain ⟨b,hb⟩:=l2 p.1 (by rw [←hz];exact mem_map.mpr ⟨p,hp,rfl⟩)
  have:=ok.kd _ hb
  cases b
  · exact .inl this
  · exact .inr this
 have hpd:ps.Nodup:=by
  have key:∀ {ps:List Str} {ms:List MV} {ns:List (Str×Bool)} {vals:Vs},Ini ps ms ns vals->(ns.map (λ zz=>zz.1)).Nodup->ps.Nodup:=by
   intro ps ms ns vals h
   induction h with
   | nil=>intro zz;exact .nil
   | none _ _=>intro zz;exact .nil
   | arg h ih =>
    intro nd
    rw [map_cons,nodup_cons] at nd
    exact nodup_cons.mpr ⟨λ q=>nd.1 (by obtain ⟨b,hb⟩:=(hlen h).2 _ q;exact mem_map.mpr ⟨_,hb,rfl⟩),ih nd.2⟩
  exact key hini ok.nd
 refine (code_defC (binds:=ps.zip (vs++dfs)) B F X N T.toTop rfl rfl hk ho hcd (by show dp < _;lia) hbd ?_ ok.cnd ?_ hco hgen ok.hk)
 · refine List.all_eq_true.mpr λ p hp=>?_
   rcases hkd p hp with q | q <;> simp [q]
 intro g L' h₁ tk cells FG F' N' Y B' X' T' l1'
 suffices key:∀E',PassesOwn (model PG W.w) {handled:=hh,depth:=dp+1,frames:=some (envOfC qual scope L' f cdv::envX cn cs L a ccd cl::outer),guards:=gd,units:=un+3} (envOfC qual scope L' f cdv) E'->(∀e s',wpAny (model PG W.w) {handled:=hh,depth:=dp+1,frames:=some (envOfC qual scope L' f cdv::envX cn cs L a ccd cl::outer),guards:=gd,units:=un+3} (leaving (envOfC qual scope L' f cdv) e) (λ zz s''=>R (.error e) s'') (λ e' s''=>R (.error e') s'') s'->E' e s')->wpAny (model PG W.w) _ (execs body (envOfC qual scope L' f cdv)) _ E' {s with heap:=h₁,toks:=tk} from key _ (by with_unfolding_all passes_own) λ zz zz q=>q
 intro E' hpo hE'
 let c:Cx W ⟨qual,scope,f,cdv,names,hb,none⟩ r:=⟨dp+1,un+3,gd,L',0,λ zz=>none,λ zz=>none,envX cn cs L a ccd cl::outer,⟨hh,dp,some (envX cn cs L a ccd cl::outer),gd,un⟩,base,g,s,E',kp,fz,hh⟩
 have Ck:c.Ok:=⟨B',X',⟨T',λ p hp=>FG.keep _ _ (T.gr p hp)⟩,ok,by show dp+1+r < _;lia,by show un+3+8 * r < _;lia,a1,λ zz=>hpo⟩
 have hcl:∀p∈cells,L' < p.1:=by
  have e:=cells_addr Y
  have key:∀ (ns:List (Str×NameKind)) (n:Nat) (acc:List (Str×Addr)),L' < n->(∀p∈acc,L' < p.2)->∀p∈cellsFrom n ns acc,L' < p.2:=by
   intro ns
   induction ns with
   | nil=>intro n acc zz h;exact h
   | cons x r ih =>
    intro n acc hn h
    unfold cellsFrom
    split
    · exact ih _ _ (Nat.lt_succ_of_lt hn) λ p hp=>(mem_cons.mp hp).elim (λ e=>by rw [e];exact hn) (h p)
    · exact ih _ _ hn h
  intro p hp
  have:p.1∈cells.map (λ zz=>zz.1):=mem_map.mpr ⟨p,hp,rfl⟩
  rw [e] at this
  refine E1_2 (mem_map.mp this) λ q hq e2=>?_
  have:=key scope.names (L'+1) [] (Nat.lt_succ_self _) (λ zz h=>nomatch h) q hq
  rw [←e2];exact this
 have hcd2:(cells.map (λ zz=>zz.1)).Nodup:=by
  rw [cells_addr Y]
  have key:∀ (ns:List (Str×NameKind)) (n:Nat) (acc:List (Str×Addr)),(acc.map (λ zz=>zz.2)).Nodup->(∀p∈acc,p.2 < n)->((cellsFrom n ns acc).map (λ zz=>zz.2)).Nodup:=by
   intro ns
   induction ns with
   | nil=>intro n acc h zz;exact h
   | cons x r ih =>
    intro n acc hnd h
    unfold cellsFrom
    split
    · refine ih _ _ ?_ λ p hp=>(mem_cons.mp hp).elim (λ e=>by rw [e];exact Nat.lt_succ_self _) λ hp=>Nat.lt_succ_of_lt (h p hp)
      rw [map_cons,nodup_cons]
      refine ⟨λ q=>?_,hnd⟩
      refine E1_2 (mem_map.mp q) λ p hp e=>?_
      exact absurd (h p hp) (by rw [e];exact Nat.lt_irrefl _)
    · exact ih _ _ hnd h
  exact key _ _ _ .nil (λ zz h=>nomatch h)
 have low:∀p∈ob++(kp++fz),p.1 < L':=l1'
 have S:c.St h₁ (bindL (envOfC qual scope L' f cdv).kindOf (ps.zip (vs++dfs)) λ zz=>Option.none) (bindC (envOfC qual scope L' f cdv).kindOf (ps.zip (vs++dfs)) λ zz=>Option.none) ob cells fz vals own:=by
  refine ⟨Ck,F',λ p hp=>N' p ?_,?_,?_,?_,ow,Y,?_,a2,λ zz hp=>hp,λ q=>absurd rfl q⟩
  · simp only [mem_append] at hp ⊢
    rcases hp with q | q | q | q
    · simp [q]
    · simp [q]
    · have q':p∈kp:=q
      simp [q']
    · simp [q]
  · rw [map_append,nodup_append]
    refine ⟨nd,hcd2,λ x hx y hy e=>?_⟩
    refine E1_2 (mem_map.mp hx) λ p hp e2_2=>?_;subst e2_2
    refine E1_2 (mem_map.mp hy) λ q hq e3_2=>?_;subst e3_2
    have h1:=low p (by k_flat);have h2:=hcl q hq
    exact absurd (Nat.lt_trans h1 h2) (by rw [e];exact Nat.lt_irrefl _)
  · intro p hp q hq
    rcases mem_append.mp hp with hp | hp
    · exact ao p hp q hq
    · have q':q∈kp:=hq
      exact Nat.ne_of_gt (Nat.lt_trans (low q (by k_flat)) (hcl p hp))
  · intro p hp q hq
    simp only [mem_append] at hp
    rcases hp with hp | hp | hp
    · exact af p (by k_flat) q hq
    · exact Nat.ne_of_gt (Nat.lt_trans (low q (by k_flat)) (hcl p hp))
    · have q':p∈kp:=hp
      exact af p (by k_flat) q hq
  · refine hini.kn hv λ p hp b hb=>?_
    have kd:=ok.kd _ hb
    have hz':((ps.zip (vs++dfs)).map (λ zz=>zz.1)).Nodup:=by rw [hz];exact hpd
    cases b
    · exact bindL_at (v:=p.2) (x:=p.1) kd hz' hp
    · refine bindC_at (v:=p.2) (x:=p.1) ?_ hz' hp
      have kd':(envOfC qual scope L' f cdv).kindOf p.1=some .cell:=kd
      rw [kd'];intro e;cases e
 exact h c {s with heap:=h₁,toks:=tk} rfl rfl rfl rfl rfl rfl rfl FG ⟨h₁,tk,_,_,ob,cells,fz,S,.nil⟩ hE'
theorem TlF.enterD {W:Wd} {hb:Bool} {f:Addr} {r:Nat} {args:List MV} {own:Ow} {Post:MV->Ow->Prop} {fz:Lg} {name qual:Str} {params:Arguments} {body:List Stmt} {scope:Scope} {dV kV doc pm cdv ct oc:Value} {an od:Option Addr} {osl:Array (Option Value)} (names:List (Str×Bool)) {vals:Vs} {ps:List Str} {dfs:List Value} {dms:List MV}
 (ho:(KH W).lookup f=some ⟨oc,od,.func (fnOf name qual params body scope dV kV doc pm an cdv ct),osl⟩) (hcd:codeIn (KH W) cdv qual=true) (hdf:∀N,MAll W.w N dfs dms) (hini:Ini ps (args++dms) names vals) (ok:OkI ⟨qual,scope,f,cdv,names,hb,none⟩)
 (hbind:∀ (s:Shared) (vs:List Value),(KH W).In s.heap->vs.length=args.length->BindsTo s (fnOf name qual params body scope dV kV doc pm an cdv ct) ⟨vs,[]⟩ (ps.zip (vs++dfs))) (hco:scope.isCoroutine=false) (hgen:scope.isGenerator=false)
 (h:∀c:Cx W ⟨qual,scope,f,cdv,names,hb,none⟩ r,c.fz=fz->WS c body (kFin own Post) vals own):TlF W hb f (r+1) args own Post fz:=by
 ctx_has W hb f r args own Post fz name qual params body scope dV kV doc pm cdv ct oc an od osl names vals ps dfs dms
 intro hh dp un gd cn cs a ccd cl outer A₀ base h₀ L m s R ob kp vs a1 a2 B F X N nd ao af ow hv T hk hd hu ret
 refine enter_core names ho hcd hdf hini ok hbind hco hgen a1 a2 B F X N nd ao af ow hv T hk hd hu λ c s₁ ef eo es zz zz zz zz FG a0 zz=>h c ef s₁ _ a0 ?_
 subst ef eo es
 intro fl fv s' vals' own' hk' fok
 refine E3_3 hk' λ mv own2 mv2 hm rx hP=>?_;clear hk'
 have core:∀v,c.At s' vals' own' [v] [mv]->LeaveK h₀ L m c.h₀ R v s':=by
  rintro v ⟨h',tk',m',cm',ob',cel',frz',S',hv'⟩
  have hi:=hv'.hd
  refine E2_4 (rx.at S'.ow hi) λ Xf ob2 e ep q1 q2=>?_
  refine leaveK_ S'.F S'.N λ F9 N9=>?_
  have nd2:((Xf++ob2).map (λ zz=>zz.1)).Nodup:=by
   have:=S'.nd
   rw [map_append,nodup_append] at this
   exact ep.nodup_iff.mp this.1
  rw [map_append,nodup_append] at nd2
  refine ret v mv2 own2 ob2 (Xf++frz') h' tk' hP F9 (λ p hp=>N9 p ?_) nd2.2.1 (λ p hp=>S'.ao p (mem_append_left _ ((e p).mp (by k_flat)))) ?_ ?_ q1 q2
  · simp only [mem_append] at hp ⊢
    rcases hp with q | q | q | q
    · exact .inl ((e p).mp (by k_flat))
    · exact .inr (.inr (.inl q))
    · exact .inl ((e p).mp (by k_flat))
    · simp [q]
  · exact λ p hp=>mem_append_right _ (S'.fx p hp)
  · intro p hp q hq
    rcases mem_append.mp hq with hq | hq
    · rcases mem_append.mp hp with hp | hp
      · exact λ e=>nd2.2.2 _ (mem_map.mpr ⟨q,hq,rfl⟩) _ (mem_map.mpr ⟨p,hp,rfl⟩) e.symm
      · exact Ne.symm (S'.ao q (mem_append_left _ ((e q).mp (by k_flat))) p hp)
    · rcases mem_append.mp hp with hp | hp
      · exact S'.af p (mem_append_left _ ((e p).mp (by k_flat))) q hq
      · exact S'.af p (by rw [mem_append,mem_append];exact .inr (.inr hp)) q hq
 revert hm
 exact fok.el (λ a hm=>core _ (hm ▸ a.push λ zz=>.none)) (λ zz hm=>hm.elim) (λ zz hm=>hm.elim) λ v m a hm=>core v (hm ▸ a)
theorem TlF.enter {W:Wd} {hb:Bool} {f:Addr} {r:Nat} {args:List MV} {own:Ow} {Post:MV->Ow->Prop} {fz:Lg} {name qual:Str} {params:Arguments} {body:List Stmt} {scope:Scope} {dV kV doc pm cdv ct oc:Value} {an od:Option Addr} {osl:Array (Option Value)} (names:List (Str×Bool)) {vals:Vs} {ps:List Str}
 (ho:(KH W).lookup f=some ⟨oc,od,.func (fnOf name qual params body scope dV kV doc pm an cdv ct),osl⟩) (hcd:codeIn (KH W) cdv qual=true) (hini:Ini ps args names vals) (ok:OkI ⟨qual,scope,f,cdv,names,hb,none⟩)
 (hbind:∀vs:List Value,vs.length=args.length->bindArgs (fnOf name qual params body scope dV kV doc pm an cdv ct) ⟨vs,[]⟩=pure (ps.zip vs)) (hco:scope.isCoroutine=false) (hgen:scope.isGenerator=false)
 (h:∀c:Cx W ⟨qual,scope,f,cdv,names,hb,none⟩ r,c.fz=fz->WS c body (kFin own Post) vals own):TlF W hb f (r+1) args own Post fz :=
 TlF.enterD (dfs:=[]) (dms:=[]) names ho hcd (λ zz=>.nil) (by rw [append_nil];exact hini) ok (λ s vs zz e=>.of_eq (by rw [append_nil];exact hbind vs e)) hco hgen h
theorem Tl.enter {W:Wd} {hb:Bool} {f:Addr} {r:Nat} {args:List MV} {own:Ow} {Post:MV->Ow->Prop} {name qual:Str} {params:Arguments} {body:List Stmt} {scope:Scope} {dV kV doc pm cdv ct oc:Value} {an od:Option Addr} {osl:Array (Option Value)} (names:List (Str×Bool)) {vals:Vs} {ps:List Str}
 (ho:(KH W).lookup f=some ⟨oc,od,.func (fnOf name qual params body scope dV kV doc pm an cdv ct),osl⟩) (hcd:codeIn (KH W) cdv qual=true) (hini:Ini ps args names vals) (ok:OkI ⟨qual,scope,f,cdv,names,hb,none⟩)
 (hbind:∀vs:List Value,vs.length=args.length->bindArgs (fnOf name qual params body scope dV kV doc pm an cdv ct) ⟨vs,[]⟩=pure (ps.zip vs)) (hco:scope.isCoroutine=false) (hgen:scope.isGenerator=false)
 (h:∀c:Cx W ⟨qual,scope,f,cdv,names,hb,none⟩ r,WS c body (kFin own Post) vals own):Tl W hb f (r+1) args own Post:=λ zz=>TlF.enter names ho hcd hini ok hbind hco hgen λ c zz=>h c
section
variable {W:Wd} {I:Info} {r:Nat}
noncomputable def kTup (K:KV):KL:=λ l vals own=>l.length<=1000/\K (.tup l) vals own
inductive Fd:List (String×MV)->Str->MV->Prop
 | head {x:String} {m r}:Fd ((x,m)::r) (Str.ofString x) m
 | tail {y:String} {n r x m}:(Str.ofString y == x)=false->Fd r x m->Fd ((y,n)::r) x m
noncomputable def AtOk (W:Wd) (C:Addr) (x:Str):Prop:=plainGet (KH W) C x=true/\hasDictIn (KH W) C=true/\(match findIn (KH W) (.ref C) x with | some attr=>noGet (KH W) attr | none=>false)=true
theorem MIn.handed {w:World} {N:Lg} {v:Value} {m:MV} (h:MIn w N v m):handedIn v=true:=by have q:=h.un;clear h;induction q <;> rfl
theorem AllF.fd {w:World} {N:Lg} {es:List DictEntry} {fs:List (String×MV)} {x:Str} {m:MV} (h:MFs w N es fs) (f:Fd fs x m):∃v,getL x es=some (some v)/\MIn w N v m:=by
 induction f generalizing es with
 | @head x m r =>
  refine h.cn λ k v r hv zz=>⟨v,?_,hv⟩
  unfold getL
  rw [List.find?_cons_of_pos (by show (Str.ofString x == Str.ofString x)=true;exact beq_self_eq_true _)]
 | @tail y n r x m hne zz ih =>
  refine h.cn λ k v r hv hr=>?_
  refine E1_2 (ih hr) λ u h1 h2=>?_
  refine ⟨u,?_,h2⟩
  unfold getL at h1 ⊢
  rw [List.find?_cons_of_neg (by show ¬ (Str.ofString y == x)=true;rw [hne];simp)]
  exact h1
variable {c:Cx W I r} {vals vals':Vs} {own own':Ow}
set_option tactic.hygienic true in
theorem O1.attr {C:Nat} {fs:List (String×MV)} {x:Str} {mv:MV} {K:KV} (ok:AtOk W C x) (f:Fd fs x mv) (h:K mv vals own):kAttr c x K (.inst C fs) vals own:=by
 intro v s vs ms Q a hQ
 refine Cx.AtI.el1 a λ g tk m cm ob cel frz S hi hv=>?_
 refine hi.instE λ a dx es k h1 h2 h3=>?_
 refine E1_2 (h3.fd f) λ u hu hm=>?_
 refine E0_3 ok λ q1 q2 q3=>?_;clear ok
 split at q3
 · rename_i attr q4
   exact get_own S.F S.k.X (InstAt.of_news S.pure h1 h2) q1 q2 q4 q3 hu hm.handed (hQ u mv _ vals own h ⟨g,tk+1,m,cm,ob,cel,frz,S,.cons hm hv⟩)
 · f_shut q3
theorem WE.attr {e:Expr} {x:Str} {p:Pos} {K:KV} (h:WE c e (kAttr c x K) vals own)
 (he:autoParam (∀env,eval (.Attribute e x p) env=(do
  let o ← eval e env
  standAt p.atName
  let r ← holding [o] (getAttr o x true)
  letTemporaryGo e o r
  pure r)) aK):WE c (.Attribute e x p) K vals own:=by
 intro s vs ms Q a hQ
 exact Attribute_any_ (h s vs ms _ a λ v mv s' vals' own' hk a'=>hk v s' vs ms Q a' hQ) (he _)
theorem Cx.St.frz1 {h h':Heap} {m cm:Str->Option Value} {ob cel frz:Lg} {a:Addr} {o:Obj} (S:c.St h m cm ob cel frz vals own) (F':Fr c.h₀ c.L h' m) (N':News c.h₀ c.L h' ((a,o)::c.all ob cel frz)) (lt:∀p∈c.all ob cel frz,p.1 < a):c.St h' m cm ob cel ((a,o)::frz) vals own :=
 S.frzn (X:=[(a,o)]) F' N' λ q hq p hp=>by rw [mem_singleton.mp hp];exact Nat.ne_of_lt (lt q hq)
theorem kTup.mk {K:KV} {l:List MV} (h:K (.tup l) vals own) (hz:autoParam (l.length<=1000) aB):kTup K l vals own:=⟨hz,h⟩
theorem WE.tup {es:List Expr} {k:Nat} {p:Pos} {K:KV} (h:WA c es (kTup K) vals own):WE c (.Tuple es k p) K vals own:=by
 intro s vs ms Q a hQ
 refine Tuple_ (h p s vs ms _ a λ ws l s' vals' own' hk e a'=>?_)
 refine Cx.AtI.elS a' e λ g tk m cm ob cel frz S hw hv=>?_
 refine kup_newTuple S.F S.N (λ D h' F' N' lt=>hQ _ _ _ _ _ hk.2 ⟨h',tk,m,cm,ob,cel,_,S.frz1 F' N' lt,.cons (.tup (.head _) (hw.mono λ p hp=>.tail _ hp)) (hv.mono λ p hp=>.tail _ hp)⟩) ?_
 rw [e];exact Nat.le_trans hk.1 (by decide)
theorem at_num:AtOk W 254 (Str.ofString "number"):=⟨by kernel_rfl,by kernel_rfl,by kernel_rfl⟩
theorem at_gen:AtOk W 254 (Str.ofString "generation"):=⟨by kernel_rfl,by kernel_rfl,by kernel_rfl⟩
theorem at_text:AtOk W 183 (Str.ofString "text"):=⟨by kernel_rfl,by kernel_rfl,by kernel_rfl⟩
theorem at_ref:AtOk W 409 (Str.ofString "reference"):=⟨by kernel_rfl,by kernel_rfl,by kernel_rfl⟩
theorem at_head:AtOk W 409 (Str.ofString "head"):=⟨by kernel_rfl,by kernel_rfl,by kernel_rfl⟩
theorem at_above:AtOk W 409 (Str.ofString "above"):=⟨by kernel_rfl,by kernel_rfl,by kernel_rfl⟩
theorem at_inh:AtOk W 409 (Str.ofString "inherited"):=⟨by kernel_rfl,by kernel_rfl,by kernel_rfl⟩
theorem at_isp:AtOk W 409 (Str.ofString "is_page"):=⟨by kernel_rfl,by kernel_rfl,by kernel_rfl⟩
theorem at_pref:AtOk W 388 (Str.ofString "reference"):=⟨by kernel_rfl,by kernel_rfl,by kernel_rfl⟩
theorem at_fields:AtOk W 388 (Str.ofString "fields"):=⟨by kernel_rfl,by kernel_rfl,by kernel_rfl⟩
theorem at_table:AtOk W 368 (Str.ofString "table"):=⟨by kernel_rfl,by kernel_rfl,by kernel_rfl⟩
theorem at_trailer:AtOk W 368 (Str.ofString "trailer"):=⟨by kernel_rfl,by kernel_rfl,by kernel_rfl⟩
noncomputable def AllN:Nat->(List Value->Prop)->Prop
 | 0,P=>P []
 | n+1,P=>∀a,AllN n λ l=>P (a::l)
theorem lenN {n:Nat}:∀ {P:List Value->Prop},AllN n P->∀vs:List Value,vs.length=n->P vs:=by
 induction n with
 | zero=>intro P h vs e;rw [List.eq_nil_of_length_eq_zero e];exact h
 | succ n ih =>
  intro P h vs e
  induction vs with
  | nil=>f_shut e
  | cons a r=>exact ih (h a) r (Nat.succ.inj e)
theorem len1 {P:List Value->Prop} (h:∀a,P [a]):∀vs:List Value,vs.length=1->P vs:=lenN (n:=1) h
theorem len2 {P:List Value->Prop} (h:∀a b,P [a,b]):∀vs:List Value,vs.length=2->P vs:=lenN (n:=2) h
theorem len3 {P:List Value->Prop} (h:∀a b c,P [a,b,c]):∀vs:List Value,vs.length=3->P vs:=lenN (n:=3) h
theorem len4 {P:List Value->Prop} (h:∀a b c d,P [a,b,c,d]):∀vs:List Value,vs.length=4->P vs:=lenN (n:=4) h
end
noncomputable def okB (I:Info):Bool:=decide ((I.names.map (λ zz=>zz.1)).Nodup) && (I.names.all λ p=>I.cs.names.lookup p.1 == some (if p.2 then .cell else .local)) && I.cs.kind == .function && decide (((cellsFrom 0 I.cs.names []).map (λ zz=>zz.1)).Nodup) && I.cp.isNone
set_option tactic.hygienic true in
theorem mem_of_look {κ α:Type} [BEq κ] [LawfulBEq κ]:∀ {l:List (κ×α)} {x:κ} {a:α},l.lookup x=some a->(x,a)∈l
 | p::r,x,a,h=>by
  rw [List.lookup_cons] at h
  split at h
  · rename_i e;f_shut h;rw [eq_of_beq e];exact .head _
  · exact .tail _ (mem_of_look h)
theorem OkI.of {I:Info} (h:okB I=true):OkI I:=by
 ctx_has I
 unfold okB at h
 simp only [Bool.and_eq_true,decide_eq_true_eq,List.all_eq_true,beq_iff_eq,Option.isNone_iff_eq_none] at h
 obtain ⟨⟨⟨⟨h1,h2⟩,h3⟩,h4⟩,h5⟩:=h
 have he:∀L C,cEnv I L C=fEnv I L:=λ L C=>by unfold cEnv;rw [h5]
 refine ⟨h1,λ p hp=>by rw [he];exact h2 p hp,by rw [he];exact h3,h3,h4,λ p hp hb L=>?_⟩
 revert hp hb;ctx_has p L
 rw [he]
 have hk:=h2 p hp
 rw [hb] at hk
 have:=cellsFrom_some I.cs.names (L+1) [] (x:=p.1) (.inl hk)
 obtain ⟨a,ha⟩:=Option.isSome_iff_exists.mp this
 exact ⟨a,ha,mem_of_look ha⟩
section
variable {W:Wd} {I:Info} {r:Nat} {c:Cx W I r} {vals vals':Vs} {own own':Ow}
end
theorem kFin.end {own₀:Ow} {mv:MV} {vals:Vs}:kFin own₀ (λ m o=>m=mv/\o=own₀) (.rt mv) vals own₀:=⟨_,_,_,rfl,.refl,rfl,rfl⟩
theorem kFin.md {own₀ own:Ow} {mv:MV} {vals:Vs}:kFin own₀ (λ m o=>m=mv/\o=own) (.rt mv) vals own:=⟨_,_,_,rfl,.refl,rfl,rfl⟩
theorem kFin.no {own₀:Ow} {P:MV->Ow->Prop} {vals:Vs} {own:Ow} (h:kFin own₀ P (.rt .none) vals own):kFin own₀ P .nx vals own:=h
theorem kFin.of {own₀ own:Ow} {P:MV->Ow->Prop} {mv:MV} {vals:Vs} (h:P mv own):kFin own₀ P (.rt mv) vals own:=⟨_,_,_,rfl,.refl,h⟩
theorem kFin.drop {own₀ own:Ow} {P:MV->Ow->Prop} {p:Addr×OV} {mv:MV} {vals:Vs} (h:kFin own₀ P (.rt mv) vals own):kFin own₀ P (.rt mv) vals (p::own):=by
 refine E3_3 h λ m o m' h1 h2 h3=>?_;clear h
 obtain rfl:m=mv:=h1
 exact ⟨_,o,m',rfl,.drop h2,h3⟩
theorem kFin.frz {own₀ own:Ow} {P:MV->Ow->Prop} {a:Addr} {ov:OV} {vals:Vs} (f:OV.frz ov) (h:kFin own₀ P (.rt ov.mv) vals own):kFin own₀ P (.rt (.ptr a)) vals ((a,ov)::own):=by
 refine E3_3 h λ m o m' h1 h2 h3=>?_;clear h
 obtain rfl:m=ov.mv:=h1
 exact ⟨_,o,m',rfl,.frz f h2,h3⟩
theorem kFin.lst {own₀ own:Ow} {P:MV->Ow->Prop} {a:Addr} {l:List MV} {vals:Vs} (h:kFin own₀ P (.rt (.lst l)) vals own):kFin own₀ P (.rt (.ptr a)) vals ((a,.lst l)::own):=kFin.frz .lst h
theorem kFin.dct {own₀ own:Ow} {P:MV->Ow->Prop} {a:Addr} {l:List (Str×MV)} {vals:Vs} (h:kFin own₀ P (.rt (.dct l)) vals own):kFin own₀ P (.rt (.ptr a)) vals ((a,.dct l)::own):=kFin.frz .dct h
theorem kFin.ict {own₀ own:Ow} {P:MV->Ow->Prop} {a:Addr} {l:List (Int×MV)} {vals:Vs} (h:kFin own₀ P (.rt (.ict l)) vals own):kFin own₀ P (.rt (.ptr a)) vals ((a,.ict l)::own):=kFin.frz .ict h
section
variable {W:Wd} {I:Info} {r:Nat} {c:Cx W I r} {vals vals':Vs} {own own':Ow}
noncomputable def Cx.more (c:Cx W I r) (it fz:Lg):Cx W I r:={c with old:=it++c.old,fz:=fz}
theorem Cx.Ok.more {c:Cx W I r} {it fz:Lg} (k:c.Ok):(c.more it fz).Ok:=⟨k.B,k.X,k.T,k.ok,k.hd,k.hu,k.hhb,k.po⟩
theorem Cx.S0.more {m cm:Str->Option Value} {ob cel frz it fz:Lg} (S:c.S0 m cm ob cel frz vals own) (ho:OwnOff it ((c.all ob cel frz).map (λ zz=>zz.1))) (hf:Ext fz frz):(c.more it fz).S0 m cm ob cel frz vals own:=by
 have off:∀p∈it,∀q∈c.all ob cel frz,p.1≠q.1:=λ p hp q hq=>ho p hp _ (mem_map.mpr ⟨q,hq,rfl⟩)
 refine ⟨S.k.more,S.nd,λ p hp q hq=>?_,λ p hp q hq=>?_,S.ow,S.cc,?_,S.hi.mono λ p hp=>?_,hf,S.fm⟩
 · rcases mem_append.mp hq with hq | hq
   · exact Ne.symm (off q hq p (by kso_open hp))
   · exact S.ao p hp q hq
 · have hp':p∈ob++(cel++(it++c.old)):=hp
   simp only [mem_append] at hp'
   rcases hp' with hp | hp | hp | hp
   · exact S.af p (by k_flat) q hq
   · exact S.af p (by k_flat) q hq
   · exact off p hp q (by k_flat)
   · exact S.af p (by k_flat) q hq
 · refine S.kn.imp (λ b x v a=>?_) λ zz zz h=>h
   unfold Cx.Holds at a ⊢
   split at a
   · exact a
   · exact a
   · exact E2_2 a λ oC m2 h1 h2=>⟨oC,m2,mem_append_right _ h1,h2⟩
 · show p∈(it++c.old)++frz
   rcases mem_append.mp hp with a | a <;> simp [*]
theorem Cx.Ok.less {c:Cx W I r} {it fz:Lg} (k:(c.more it fz).Ok):c.Ok:=⟨k.B,k.X,k.T,k.ok,k.hd,k.hu,k.hhb,k.po⟩
theorem Cx.S0.less {m cm:Str->Option Value} {ob cel fz it frz':Lg} (hcp:I.cp=none) (S:(c.more it fz).S0 m cm ob cel frz' vals own) (hf:Ext c.fz fz) (hI:I.hb=false):c.S0 m cm ob cel frz' vals own:=by
 refine ⟨S.k.less,S.nd,λ p hp q hq=>S.ao p hp q (mem_append_right _ hq),λ p hp q hq=>S.af p (by show p∈ob++(cel++(it++c.old));kso_open hp) q hq,S.ow,S.cc,?_,by rw [S.k.less.hhb hI];trivial,λ p hp=>S.fx p (hf p hp),S.fm⟩
 refine S.kn.imp (λ b x v a=>?_) λ zz zz h=>h
 unfold Cx.Holds at a ⊢
 rw [hcp] at a ⊢
 split at a
 · exact a
 · exact a
 · contradiction
theorem Cx.S0.loc {m cm:Str->Option Value} {ob cel frz:Lg} {x:Str} {v:Value} {mv:MV} (S:c.S0 m cm ob cel frz vals own) (hcp:I.cp=none) (t:Nt I.names vals x false mv vals') (hv:MIn W.w frz v mv):c.S0 (λ y=>if y=x then some v else m y) cm ob cel frz vals' own :=
 ⟨S.k,S.nd,S.ao,S.af,S.ow,S.cc,S.kn.put hv (by unfold Cx.Holds;rw [hcp];simp) (λ zz zz zz hn=>Cx.Holds.locU hn) S.k.ok.nd t,S.hi,S.fx,λ q=>absurd hcp q⟩
theorem Cx.At.less {it fz:Lg} {s:Shared} {vs:List Value} {ms:List MV} (hcp:I.cp=none) (hI:I.hb=false) (hf:Ext c.fz fz) (a:(c.more it fz).At s vals own vs ms):c.At s vals own vs ms:=by
 refine Cx.AtI.el a λ h' tk' m' cm' ob' cel' frz2 S' hv'=>?_
 refine ⟨h',tk',m',cm',ob',cel',frz2,(S'.s0.less hcp hf hI).st S'.F λ p hp=>S'.N p ?_,hv'⟩
 show p∈ob'++(cel'++((it++c.old)++frz2))
 kso_open hp
theorem Cx.PF.less {K:KS} {it fz:Lg} {Q:Flow->Shared->Prop} (hcp:I.cp=none) (hI:I.hb=false) (hf:Ext c.fz fz) (hQ:c.PF K Q):(c.more it fz).PF K Q:=by
 intro fl fv s' vals own hk ok
 revert hk
 exact ok.el (λ a hk=>hQ _ _ _ _ _ hk (Cx.At.less hcp hI hf a)) (λ a hk=>hQ _ _ _ _ _ hk (Cx.At.less hcp hI hf a)) (λ a hk=>hQ _ _ _ _ _ hk (Cx.At.less hcp hI hf a)) λ v m a hk=>hQ _ _ _ _ _ hk (Cx.At.less hcp hI hf a)
theorem Cx.St.fixed {g:Heap} {m cm:Str->Option Value} {ob cel frz:Lg} (S:c.St g m cm ob cel frz vals own):(c.more [] frz).St g m cm ob cel frz vals own:=(S.s0.more (λ p hp=>by f_shut hp) λ zz h=>h).st S.F S.N
noncomputable def kTurn (J:Nat->Vs->Ow->Prop) (i:Nat) (K:KS):KS:=λ fv vals own=>match fv with | .nx=>J (i+1) vals own | .ct=>J (i+1) vals own | .br=>K .nx vals own | .rt m=>K (.rt m) vals own
noncomputable def kForX (c:Cx W I r) (x:Str) (body:List Stmt) (K:KS):KV:=λ m vals own=>∀v s Q,c.At s vals own [v] [m]->c.PF K Q ->
 wpAny (model PG W.w) c.A (pyIter v) (λ it s₂=>LoopAtV PG W.w c.A c.h₀ c.env x body Q c.E it s₂) c.E s
theorem WX.for {x:Str} {px pos:Pos} {iter:Expr} {body:List Stmt} {K:KS} (h:WE c iter (kForX c x body K) vals own) (hcp:autoParam (I.cp=none) aK) (hx:autoParam (I.cs.names.lookup x=some .local) aQ)
 (hs:autoParam (∀env x,foldedSetIterable iter env x=pure x) aK):WX c (.For (.Name x px) iter body [] pos) K vals own:=by
 intro s Q a hQ
 have he:c.env=fEnv I c.L:=by unfold Cx.env cEnv;rw [hcp]
 refine Cx.AtI.el a λ g tk m cm ob cel frz S hv=>?_
 have a0:=Cx.AtI.mk (c:=c) g tk m cm ob cel frz S hv
 have hp:(c.env.scope.kind == .class || (c.env.scope.kind == .module && c.env.locals != c.env.globals))=false:=by
  rw [he];show (I.cs.kind == .class || (I.cs.kind == .module && _))=false;rw [S.k.ok.hk];rfl
 refine For_invVF (m:=m) (h₀:=c.h₀) (by rw [he];exact S.F) (by rw [he];exact hx) hp (h _ [] [] _ a0 λ v mv s' vals' own' hk a'=>hk v s' Q a' hQ) (λ x=>hs _ x) ?_
 have:=S.k.po hcp
 rw [he];exact this
theorem WS.for {x:Str} {px pos:Pos} {iter:Expr} {body rest:List Stmt} {K:KS} (h:WE c iter (kForX c x body (kSeq c rest K)) vals own) (hcp:autoParam (I.cp=none) aK) (hx:autoParam (I.cs.names.lookup x=some .local) aQ)
 (hs:autoParam (∀env x,foldedSetIterable iter env x=pure x) aK):WS c (.For (.Name x px) iter body [] pos::rest) K vals own:=WS.cons (WX.for h hcp hx hs)
noncomputable def Cx.JJ (c:Cx W I r) (J:Nat->Vs->Ow->Prop) (i:Nat) (m₁:Str->Option Value) (nx:Lg):Prop:=∃cm ob cel frz vals own,nx=c.all ob cel frz/\c.S0 m₁ cm ob cel frz vals own/\J i vals own
theorem Cx.JJ.keep {J:Nat->Vs->Ow->Prop} {i:Nat} {m₁:Str->Option Value} {nx Src:Lg} (h:c.JJ J i m₁ nx) (hsrc:Ext Src (c.old++c.fz)):Ext Src nx:=by
 refine E6_3 h λ cm ob cel frz' vals own e1_6 S1 zz=>?_;clear h;subst e1_6
 intro p hp
 rcases mem_append.mp (hsrc p hp) with q | q
 · k_flat
 · simp [Cx.all,S1.fx p q]
theorem Cx.JJ.done {J:Nat->Vs->Ow->Prop} {n:Nat} {m₁:Str->Option Value} {nx:Lg} {K:KS} {Q:Flow->Shared->Prop} {h:Heap} {tk:Nat} (hJ:c.JJ J n m₁ nx) (hQ:c.PF K Q) (done:∀vals own,J n vals own->K .nx vals own) (F1:Fr c.h₀ c.L h m₁) (N1:News c.h₀ c.L h nx):Q .next {c.s with heap:=h,toks:=tk}:=by
 obtain ⟨cm,ob,cel,frz',vals,own,rfl,S1,hJ⟩:=hJ
 exact hQ .next .nx _ _ _ (done _ _ hJ) ⟨h,tk,m₁,cm,ob,cel,frz',S1.st F1 N1,.nil⟩
theorem Cx.JJ.next {J:Nat->Vs->Ow->Prop} {i:Nat} {it:Lg} {s':Shared} {h:Heap} {tk:Nat} (hcp:I.cp=none) (hhb:I.hb=false) (hoff:∀p∈it,∀q∈c.old,p.1≠q.1) (hJ':J i vals own) (a:(c.more it c.fz).At s' vals own [] []):InvEndG c.h₀ c.L (c.JJ J i) it {c.s with heap:=h,toks:=tk} s':=by
 refine Cx.AtI.el a λ h' tk' m' cm' ob' cel' frz2 S' hv'=>?_
 refine ⟨h',tk',m',_,c.all ob' cel' frz2,rfl,S'.F,S'.N,λ p hp=>?_,λ p hp=>?_,λ p hp b hb=>?_,cm',ob',cel',frz2,vals,own,rfl,S'.s0.less hcp (λ zz h=>h) hhb,hJ'⟩
 · show p∈ob'++(cel'++((it++c.old)++frz2))
   kso_open hp
 · show p∈ob'++(cel'++((it++c.old)++frz2))
   k_flat
 · refine E1_2 (mem_map.mp hb) λ q hq e3_2=>?_;subst e3_2
   simp only [Cx.all,mem_append] at hq
   rcases hq with hq | hq | hq | hq
   · exact Ne.symm (S'.ao q (by k_flat) p (mem_append_left _ hp))
   · exact Ne.symm (S'.ao q (by k_flat) p (mem_append_left _ hp))
   · exact hoff p hp q hq
   · exact S'.af p (by show p∈ob'++(cel'++(it++c.old));k_flat) q hq
theorem Cx.JJ.turn {J:Nat->Vs->Ow->Prop} {i:Nat} {m₁ m₂:Str->Option Value} {nx it:Lg} {body:List Stmt} {Kt:KS} {Post:Flow->Shared->Prop} {h:Heap} {tk:Nat} (hJ:c.JJ J i m₁ nx) (hoff:OwnOff it (nx.map (λ zz=>zz.1)))
 (up:∀cm ob cel frz vals own,(c.more it c.fz).S0 m₁ cm ob cel frz vals own->J i vals own->∃vals',(c.more it c.fz).S0 m₂ cm ob cel frz vals' own/\WS (c.more it c.fz) body Kt vals' own)
 (fin:(c.more it c.fz).PF Kt Post) (F1:Fr c.h₀ c.L h m₂) (N1:News c.h₀ c.L h (nx++it)):wpAny (model PG W.w) c.A (execs body c.env) Post c.E {c.s with heap:=h,toks:=tk}:=by
 obtain ⟨cm,ob,cel,frz',vals,own,rfl,S1,hJ⟩:=hJ
 obtain ⟨vals2,S2,hw⟩:=up _ _ _ _ _ _ (S1.more hoff S1.fx) hJ
 refine hw {c.s with heap:=h,toks:=tk} _ ⟨h,tk,_,cm,ob,cel,frz',S2.st F1 (λ p hp=>N1 p ?_),.nil⟩ fin
 have hp':p∈ob++(cel++((it++c.old)++frz')):=hp
 kso_open hp'
theorem for_core {x:Str} {body:List Stmt} {K:KS} {l:List MV} {n:Nat} (J:Nat->Vs->Ow->Prop) (hcp:I.cp=none) (hhb:I.hb=false) (h0:J 0 vals own)
 (turn:∀ (c':Cx W I r) i m vals own,c'.fz=c.fz->l[i]? = some m->J i vals own->∃vals',Nt I.names vals x false m vals'/\WS c' body (kTurn J i K) vals' own) (done:∀vals own,J n vals own->K .nx vals own)
 {g:Heap} {tk:Nat} {m cm:Str->Option Value} {ob cel frz:Lg} {Q:Flow->Shared->Prop} {xv:Value} {Src:Lg} {Rel:Nat->Value->Prop} (S:c.St g m cm ob cel frz vals own) (hQ:c.PF K Q)
 (hsrc:Ext Src (c.old++c.fz)) (hrel:∀i v,Rel i v->∃m,l[i]? = some m/\MIn W.w c.fz v m)
 (LP:∀ (J':Nat->(Str->Option Value)->Lg->Prop),J' 0 m (c.all ob cel frz)->(∀i m nx,J' i m nx->Ext Src nx) ->
  (∀i v m₁ nx h tk it,Rel i v->OwnOff it (nx.map (λ zz=>zz.1))->J' i m₁ nx->Fr c.h₀ c.env.locals h (λ y=>if y=x then some v else m₁ y)->News c.h₀ c.env.locals h (nx++it) ->
   wpAny (model PG W.w) c.A (execs body c.env) (InvPostG c.h₀ c.env.locals (J' (i+1)) it {c.s with heap:=h,toks:=tk} Q) c.E {c.s with heap:=h,toks:=tk}) ->
  (∀m₁ nx h tk,J' n m₁ nx->Fr c.h₀ c.env.locals h m₁->News c.h₀ c.env.locals h nx->Q .next {c.s with heap:=h,toks:=tk}) ->
  wpAny (model PG W.w) c.A (pyIter xv) (λ it s₂=>LoopAtV PG W.w c.A c.h₀ c.env x body Q c.E it s₂) c.E {c.s with heap:=g,toks:=tk}) :
 wpAny (model PG W.w) c.A (pyIter xv) (λ it s₂=>LoopAtV PG W.w c.A c.h₀ c.env x body Q c.E it s₂) c.E {c.s with heap:=g,toks:=tk}:=by
 have he:c.env.locals=c.L:=by unfold Cx.env cEnv;rw [hcp]
 rw [he] at LP
 refine LP (c.JJ J) ⟨cm,ob,cel,frz,vals,own,rfl,S.s0,h0⟩ (λ i m nx h=>h.keep hsrc) ?_ λ m₁ nx h tk hJ F1 N1=>hJ.done hQ done F1 N1
 intro i v m₁ nx h tk it hR hoff hJ F1 N1
 refine E1_2 (hrel i v hR) λ mv hl hm=>?_
 have ho:∀p∈it,∀q∈c.old,p.1≠q.1:=λ p hp q hq=>hoff p hp _ (mem_map.mpr ⟨q,hJ.keep (λ zz h=>mem_append_left _ h) q hq,rfl⟩)
 refine hJ.turn (Kt:=kTurn J i K) hoff (λ cm ob cel frz' vals own S1 hJ=>?_) (λ fl fv s' vals own hk ok=>?_) F1 N1
 · refine E1_2 (turn (c.more it c.fz) i mv vals own rfl hl hJ) λ vals2 t hw=>?_
   exact ⟨vals2,S1.loc hcp t (hm.mono S1.fx),hw⟩
 · revert hk
   exact ok.el (λ a hk=>Cx.JJ.next hcp hhb ho hk a) (λ a hk=>hQ .next .nx _ _ _ hk (Cx.At.less hcp hhb (λ zz h=>h) a)) (λ a hk=>Cx.JJ.next hcp hhb ho hk a) λ v m a hk=>hQ (.ret _) (.rt _) _ _ _ hk (Cx.At.less hcp hhb (λ zz h=>h) a)
theorem kForX.lst {x:Str} {body:List Stmt} {K:KS} {l:List MV} (J:Nat->Vs->Ow->Prop) (h0:J 0 vals own)
 (turn:∀ (c':Cx W I r) i m vals own,l[i]? = some m->J i vals own->∃vals',Nt I.names vals x false m vals'/\WS c' body (kTurn J i K) vals' own) (done:∀vals own,J l.length vals own->K .nx vals own) (hcp:autoParam (I.cp=none) aR) (hhb:autoParam (I.hb=false) aR) :
 kForX c x body K (.lst l) vals own:=by
 intro v s Q a hQ
 refine Cx.AtI.el1 a λ g tk m cm ob cel frz S hi hv=>?_
 refine lst_el hi λ l0 us k hm ha=>?_
 have he:(c.more [] frz).env.locals=c.L:=by unfold Cx.env cEnv;rw [hcp];rfl
 refine for_core (c:=c.more [] frz) (Src:=[(l0,listOf us.toArray k)]) (Rel:=λ i v=>us[i]? = some v) J hcp hhb h0 (λ c' i m v o zz=>turn c' i m v o) done S.fixed (hQ.less hcp hhb S.fx) (λ p hp=>by rw [mem_singleton.mp hp];exact mem_append_right _ hm) (λ i v h=>ha.at h) λ J' hj keep turn' done'=>?_
 rw [←ha.length] at done'
 exact loop_list J' (S.k.hhb hhb) (keep _ _ _ hj _ (.head _)) (by rw [he];exact S.F) (by rw [he];exact S.N) hj (λ i m nx h=>keep i m nx h _ (.head _)) turn' done'
theorem kForX.tup {x:Str} {body:List Stmt} {K:KS} {l:List MV} (J:Nat->Vs->Ow->Prop) (h0:J 0 vals own)
 (turn:∀ (c':Cx W I r) i m vals own,l[i]? = some m->J i vals own->∃vals',Nt I.names vals x false m vals'/\WS c' body (kTurn J i K) vals' own) (done:∀vals own,J l.length vals own->K .nx vals own) (hcp:autoParam (I.cp=none) aR) (hhb:autoParam (I.hb=false) aR) :
 kForX c x body K (.tup l) vals own:=by
 intro v s Q a hQ
 refine Cx.AtI.el1 a λ g tk m cm ob cel frz S hi hv=>?_
 refine tup_el hi λ l0 us k hm ha=>?_
 have he:(c.more [] frz).env.locals=c.L:=by unfold Cx.env cEnv;rw [hcp];rfl
 refine for_core (c:=c.more [] frz) (Src:=[(l0,tupO us k)]) (Rel:=λ i v=>us[i]? = some v) J hcp hhb h0 (λ c' i m v o zz=>turn c' i m v o) done S.fixed (hQ.less hcp hhb S.fx) (λ p hp=>by rw [mem_singleton.mp hp];exact mem_append_right _ hm) (λ i v h=>ha.at h) λ J' hj keep turn' done'=>?_
 rw [←ha.length] at done'
 exact loop_tuple (oax:=tupO us k) J' (S.k.hhb hhb) rfl rfl (by rw [he];exact S.F) (by rw [he];exact S.N) hj (λ i m nx h=>.inl (keep i m nx h _ (.head _))) turn' done'
theorem AllK.look {w:World} {N:Lg} {ps:List (Str×Value)} {l:List (Str×MV)} (h:MKv w N ps l) (nd:(ps.map (λ zz=>zz.1)).Nodup) {i:Nat} {y:Str} {u:Value} (e:ps[i]? = some (y,u)):∃m,l[i]? = some (y,m)/\MIn w N u m/\mGet l y=some m:=by
 induction h generalizing i with
 | nil=>exact nomatch e
 | @cons x v m r q hv hr ih =>
  have nd:=nodup_cons.mp nd
  rcases i with _ | i
  · have e:=Prod.mk.inj (Option.some.inj e)
    rw [←e.1,← e.2]
    exact ⟨m,rfl,hv,by simp [mGet]⟩
  · have e':r[i]? = some (y,u):=e
    refine E1_3 (ih nd.2 e') λ m' h1 h2 h3=>?_
    refine ⟨m',by trivial,h2,?_⟩
    have hne:x≠y:=λ q=>nd.1 (mem_map.mpr ⟨_,mem_of_getElem? e',q.symm⟩)
    simpa [mGet,hne] using h3
theorem kForX.keys {x:Str} {body:List Stmt} {K:KS} {l:List (Str×MV)} (J:Nat->Vs->Ow->Prop) (h0:J 0 vals own)
 (turn:∀ (c':Cx W I r) i y v vals own,l[i]? = some (y,v)->mGet l y=some v->J i vals own->∃vals',Nt I.names vals x false (.str y) vals'/\WS c' body (kTurn J i K) vals' own) (done:∀vals own,J l.length vals own->K .nx vals own) (hcp:autoParam (I.cp=none) aR) (hhb:autoParam (I.hb=false) aR) :
 kForX c x body K (.dct l) vals own:=by
 intro v s Q a hQ
 refine Cx.AtI.el1 a λ g tk m cm ob cel frz S hi hv=>?_
 refine dct_el hi λ l0 o ps hm lo hd ha=>?_
 have he:(c.more [] frz).env.locals=c.L:=by unfold Cx.env cEnv;rw [hcp];rfl
 have nd:=hd.choose_spec.choose_spec.2.2.2.2
 refine for_core (c:=c.more [] frz) (l:=l.map λ p=>MV.str p.1) (Src:=[(l0,o)]) (Rel:=λ i v=>∃y t u,v = .str y t/\ps[i]? = some (y,u)) J hcp hhb h0 ?_ done S.fixed (hQ.less hcp hhb S.fx) (λ p hp=>by rw [mem_singleton.mp hp];exact mem_append_right _ hm) ?_ λ J' hj keep turn' done'=>?_
 · intro c' i m vals own zz hm hJ
   rw [getElem?_map] at hm
   obtain ⟨⟨y,v⟩,hyv,rfl⟩:=Option.map_eq_some_iff.mp hm
   have hlt:i < ps.length:=by rw [ha.length];exact (List.getElem?_eq_some_iff.mp hyv).1
   refine E1_3 (ha.look nd (i:=i) (y:=ps[i].1) (u:=ps[i].2) (by rw [List.getElem?_eq_getElem hlt])) λ m' q1 zz q2=>?_
   rw [hyv] at q1
   cases q1
   exact turn c' i _ _ vals own hyv q2 hJ
 · intro i v hE10;refine E3_2 hE10 λ y t u e10_3 h=>?_;clear hE10;subst e10_3
   refine E1_2 (ha.at h) λ mv h1 h2=>?_
   exact ⟨.str y,by rw [getElem?_map,h1];rfl,.str _ _⟩
 rw [←ha.length] at done'
 exact loop_keys J' (S.k.hhb hhb) (keep _ _ _ hj _ (.head _)) lo hd (by rw [he];exact S.F) (by rw [he];exact S.N) hj (λ i m nx h=>keep i m nx h _ (.head _)) (λ i y t v m₁ nx h tk it hk=>turn' i _ m₁ nx h tk it ⟨y,t,v,rfl,hk⟩) done'
end
section
variable {W:Wd} {I:Info} {r:Nat} {c:Cx W I r} {vals vals':Vs} {own own':Ow}
noncomputable abbrev kWT (J:Nat->Vs->Ow->Prop) (n:Nat) (K:KS):KS:=λ fv vals own=>match fv with | .nx=>∃k,k < n/\J k vals own | .ct=>∃k,k < n/\J k vals own | .br=>K .nx vals own | .rt m=>K (.rt m) vals own
noncomputable abbrev kWh (c:Cx W I r) (body:List Stmt) (J:Nat->Vs->Ow->Prop) (n:Nat) (K:KS):KB:=λ b vals own=>match b with | true=>WS c body (kWT J n K) vals own | false=>K .nx vals own
theorem kWT.nx {J:Nat->Vs->Ow->Prop} {n k:Nat} {K:KS} (hk:k < n) (h:J k vals own):kWT J n K .nx vals own:=⟨k,hk,h⟩
theorem kTurn.rt {J:Nat->Vs->Ow->Prop} {i:Nat} {K:KS} {m:MV} (h:K (.rt m) vals own):kTurn J i K (.rt m) vals own:=h
theorem kTurn.br {J:Nat->Vs->Ow->Prop} {i:Nat} {K:KS} (h:K .nx vals own):kTurn J i K .br vals own:=h
theorem WX.while {test:Expr} {body:List Stmt} {pos:Pos} {K:KS} (J:Nat->Vs->Ow->Prop) {n₀:Nat} (h0:J n₀ vals own) (turn:∀n vals own,J n vals own->WT c test (kWh c body J n K) vals own) (hcp:autoParam (I.cp=none) aR):WX c (.While test body [] pos) K vals own:=by
 revert c;ctx_has W I r vals own test body pos K J n₀
 ctx_has c
 intro s Q a hQ
 have he:c.env=fEnv I c.L:=by unfold Cx.env cEnv;rw [hcp]
 refine Cx.AtI.el a λ g tk m cm ob cel frz S hv=>?_
 refine While_inv2 (λ n m₁ nx=>∃cm ob cel frz' vals own,nx=c.all ob cel frz'/\c.S0 m₁ cm ob cel frz' vals own/\J n vals own) S.F S.N ⟨cm,ob,cel,frz,vals,own,rfl,S.s0,h0⟩ ?_ (by have:=S.k.po hcp;rw [he];exact this)
 intro n m₁ nx h tk₁ F1 N1 hE0;refine E6_3 hE0 λ cm ob cel frz' vals own e0_6 S1 hJ=>?_;clear hE0;subst e0_6
 refine turn n vals own hJ _ [] [] _ ⟨h,tk₁,m₁,cm,ob,cel,frz',S1.st F1 N1,.nil⟩ λ b s' vals2 own2 hk a'=>?_
 revert hk
 rcases b with _ | _
 · exact λ hk=>hQ .next .nx _ _ _ hk a'
 · intro hk
   refine hk s' _ a' λ fl fv s3 vals3 own3 hk3 ok=>?_
   have next:∀ {s':Shared} {vals own},(∃k,k < n/\J k vals own)->c.At s' vals own [] []->∃h' tk m₂ news₂ n',s'={({c.s with heap:=g,toks:=tk₁}:Shared) with heap:=h',toks:=tk}/\Fr c.h₀ c.L h' m₂/\News c.h₀ c.L h' news₂/\n' < n/\∃cm ob cel frz' vals own,news₂=c.all ob cel frz'/\c.S0 m₂ cm ob cel frz' vals own/\J n' vals own:=by
    rintro s' vals own ⟨k,hk,hJ⟩ ⟨h',tk',m',cm',ob',cel',frz2,S',hv'⟩
    exact ⟨h',tk',m',_,k,rfl,S'.F,S'.N,hk,cm',ob',cel',frz2,vals,own,rfl,S'.s0,hJ⟩
   revert hk3
   exact ok.el (λ a hk3=>next hk3 a) (λ a hk3=>hQ .next .nx _ _ _ hk3 a) (λ a hk3=>next hk3 a) λ v m a hk3=>hQ (.ret _) (.rt _) _ _ _ hk3 a
theorem WS.while {test:Expr} {body rest:List Stmt} {pos:Pos} {K:KS} (J:Nat->Vs->Ow->Prop) {n₀:Nat} (h0:J n₀ vals own) (turn:∀n vals own,J n vals own->WT c test (kWh c body J n (kSeq c rest K)) vals own) (hcp:autoParam (I.cp=none) aR):WS c (.While test body [] pos::rest) K vals own:=WS.cons (WX.while J h0 turn hcp)
theorem WS.brk {p:Pos} {rest:List Stmt} {K:KS} (h:K .br vals own):WS c (.Break p::rest) K vals own:=by
 refine WS.cons λ s Q a hQ=>?_
 have:exec (.Break p) c.env=(do standAt p;pure .brk):=rfl
 rw [this]
 exact wpAny_bind (wpAny_standAt (wpAny_pure (hQ .brk .br _ _ _ (by exact h) a)))
inductive RdS (own:Ow):MV->List (Str×MV)->Prop
 | t {kvs}:RdS own (.dct kvs) kvs
 | o {a kvs}:(a,OV.dct kvs)∈own->RdS own (.ptr a) kvs
inductive RdI (own:Ow):MV->List (Int×MV)->Prop
 | t {kvs}:RdI own (.ict kvs) kvs
 | o {a kvs}:(a,OV.ict kvs)∈own->RdI own (.ptr a) kvs
inductive RdL (own:Ow):MV->List MV->Prop
 | t {l}:RdL own (.lst l) l
 | o {a l}:(a,OV.lst l)∈own->RdL own (.ptr a) l
@[elab_as_elim] theorem RdS.el {motive:Value->Prop} {g:Heap} {m cm:Str->Option Value} {ob cel frz:Lg} {mv:MV} {kvs:List (Str×MV)} {v:Value} (R:RdS own mv kvs) (S:c.St g m cm ob cel frz vals own) (hi:MIn W.w frz v mv)
 (k:∀a o pvs,(a,o)∈c.all ob cel frz->(a == sysModules)=false->o.IsDictOf (PySem.strKind PG W.w) pvs->MKv W.w frz pvs kvs->motive (.ref a)):motive v:=by
 induction R with
 | t=>exact dct_el hi λ a o pvs h1 h2 h3 h4=>k a o pvs (by k_flat) h2 h3 h4
 | o hm=>exact E1_2 (S.ow.at hm) λ o h1 h2=>h2.dctE λ pvs q1 q2 q3=>hi.ptrE (k _ o _ (mem_append_left _ h1) q1 q2 q3)
@[elab_as_elim] theorem RdI.el {motive:Value->Prop} {g:Heap} {m cm:Str->Option Value} {ob cel frz:Lg} {mv:MV} {kvs:List (Int×MV)} {v:Value} (R:RdI own mv kvs) (S:c.St g m cm ob cel frz vals own) (hi:MIn W.w frz v mv)
 (k:∀a o pvs,(a,o)∈c.all ob cel frz->(a == sysModules)=false->o.IsDictOf (PySem.intKind PG W.w) pvs->MIk W.w frz pvs kvs->motive (.ref a)):motive v:=by
 induction R with
 | t=>exact ict_el hi λ a o pvs h1 h2 h3 h4=>k a o pvs (by k_flat) h2 h3 h4
 | o hm=>exact E1_2 (S.ow.at hm) λ o h1 h2=>h2.ictE λ pvs q1 q2 q3=>hi.ptrE (k _ o _ (mem_append_left _ h1) q1 q2 q3)
@[elab_as_elim] theorem RdL.el {motive:Value->Prop} {g:Heap} {m cm:Str->Option Value} {ob cel frz:Lg} {mv:MV} {l:List MV} {v:Value} (R:RdL own mv l) (S:c.St g m cm ob cel frz vals own) (hi:MIn W.w frz v mv)
 (k:∀a us k,(a,listOf us.toArray k)∈c.all ob cel frz->MAll W.w frz us l->motive (.ref a)):motive v:=by
 induction R with
 | t=>exact lst_el hi λ a us j h1 h2=>k a us j (by k_flat) h2
 | o hm=>refine E1_2 (S.ow.at hm) λ o h1 h2=>?_;revert h1;exact h2.lstE λ us j q h1=>hi.ptrE (k _ _ _ (mem_append_left _ h1) q)
noncomputable abbrev kCallB (c:Cx W I r) (id:String) (first:List MV) (K:KV):KL:=λ l=>ON c (λ vs=>call (.builtin id) vs) K (first++l)
noncomputable def kMb (c:Cx W I r) (x:Str) (id:String) (args:List Expr) (K:KV):KV:=λ m vals own =>
 (∀v s vs ms Q pl,c.At s vals own (v::vs) (m::ms)->Q (.builtin id,[v]) s->wpAny (model PG W.w) c.A (getMethod v x pl) Q c.E s)/\WA c args (kCallB c id [m] K) vals own
theorem Cx.At.rot {s:Shared} {vs ws:List Value} {ms l:List MV} {v:Value} {m:MV} (a:c.At s vals own (ws++v::vs) (l++m::ms)) (e:ws.length=l.length):c.At s vals own (([v]++ws)++vs) (([m]++l)++ms):=a.mid e
theorem WE.methB {o:Expr} {x:Str} {id:String} {p p':Pos} {pl:Env->Sem Bool} {e:Expr} {args:List Expr} {K:KV} (h:WE c o (kMb c x id (e::args) K) vals own)
 (he:autoParam (∀env,starEach (e::args) env=(false,eval e env)::starEach args env) aK) (hp:autoParam (∀env,(backTo p (starEach args env)).any (λ zz=>zz.1)=false) aK)
 (hc':autoParam (∀env,eval (.Call (.Attribute o x p') (e::args) [] p) env=(do
  let ov ← eval o env
  standAt p'.atName
  let (f,first) ← holding [ov] (getMethod ov x (pl env))
  callWith p f first (backTo p (starEach (e::args) env)) [])) aK):WE c (.Call (.Attribute o x p') (e::args) [] p) K vals own:=by
 intro s vs ms Q a hQ
 refine MethodCall_ (pl:=pl c.env) (h s vs ms _ a λ v mv s' vals' own' hk a'=>?_) (hc' _)
 refine hk.1 v s' vs ms _ _ a' ?_
 dsimp only
 have hpl:(backTo p (starEach (e::args) c.env)).any (λ zz=>zz.1)=false:=by rw [he];show (false || (backTo p (starEach args c.env)).any (λ zz=>zz.1))=false;rw [hp];rfl
 refine callWith_builtin hpl ?_
 have:=hk.2 p s' _ _ (λ ws s2=>wpAny (model PG W.w) c.A (call (.builtin id) ([v]++ws)) Q c.E s2) a' λ ws l s2 vals2 own2 hk2 e2 a2=>hk2 ([v]++ws) s2 vs ms Q (by simp [e2]) (a2.rot e2) hQ
 rw [he] at this ⊢
 exact evalArgs_plain this
theorem kMb.get {args:List Expr} {K:KV} {m:MV} {kvs:List (Str×MV)} (R:RdS own m kvs) (h:WA c args (kCallB c "dict.get" [m] K) vals own):kMb c (Str.ofString "get") "dict.get" args K m vals own:=by
 refine ⟨λ v s vs ms Q pl a=>?_,h⟩
 refine Cx.AtI.el1 a λ g tk m1 cm ob cel frz S hi hv=>?_
 refine R.el S hi λ a o pvs h1 h2 h3 h4=>?_
 intro hQ
 exact kdg_method (knd:=PySem.strKind PG W.w) S.N h1 h3 hQ
theorem kMb.getI {args:List Expr} {K:KV} {m:MV} {kvs:List (Int×MV)} (R:RdI own m kvs) (h:WA c args (kCallB c "dict.get" [m] K) vals own):kMb c (Str.ofString "get") "dict.get" args K m vals own:=by
 refine ⟨λ v s vs ms Q pl a=>?_,h⟩
 refine Cx.AtI.el1 a λ g tk m1 cm ob cel frz S hi hv=>?_
 refine R.el S hi λ a o pvs h1 h2 h3 h4=>?_
 intro hQ
 exact kdg_method (knd:=PySem.intKind PG W.w) S.N h1 h3 hQ
theorem All2.inv3 {w:World} {N:Lg} {ws:List Value} {a b d:MV} (h:MAll w N ws [a,b,d]):∃v u t,ws=[v,u,t]/\MIn w N v a/\MIn w N u b/\MIn w N t d:=by
 refine h.cn λ v vs p q=>?_
 refine q.in2 λ u t p2 p3=>?_
 exact ⟨v,u,t,rfl,p,p2,p3⟩
theorem MIn.none_eq {w:World} {N:Lg} {v:Value} (h:MIn w N v .none):v = .none:=h.inv
theorem ON.get1 {K:KV} {m:MV} {kvs:List (Str×MV)} {x:Str} (R:RdS own m kvs) (h:K ((mGet kvs x).getD .none) vals own):kCallB c "dict.get" [m] K [.str x] vals own:=by
 intro ws s vs ms Q e a hQ
 refine Cx.AtI.elS a e λ g tk m1 cm ob cel frz S hw hv=>?_
 refine hw.in2 λ v u hi hk=>?_
 refine R.el S hi λ a o pvs h1 h2 h3 h4=>?_
 refine hk.strE λ t=>?_
 refine kdg_get1 (knd:=PySem.strKind PG W.w) S.N h1 h3 h2 (strKind_is _ _ _ _) _ rfl (hQ _ _ _ _ _ h ⟨g,tk+1,m1,cm,ob,cel,frz,S,.cons ?_ hv⟩)
 rcases h4.get x with ⟨q1,q2⟩ | ⟨v',m',q1,q2,q3⟩
 · rw [q1,q2];exact .none
 · rw [q1,q2];exact q3
theorem ON.getI2 {K:KV} {m d:MV} {kvs:List (Int×MV)} {x:Int} (R:RdI own m kvs) (h:K ((mGet kvs x).getD d) vals own):kCallB c "dict.get" [m] K [.int x,d] vals own:=by
 intro ws s vs ms Q e a hQ
 refine Cx.AtI.elS a e λ g tk m1 cm ob cel frz S hw hv=>?_
 refine E3_4 (hw.inv3) λ v u y e5_3 hi hk hd=>?_;subst e5_3
 refine R.el S hi λ a o pvs h1 h2 h3 h4=>?_
 refine hk.intE λ t=>?_
 refine kdg_get2 (knd:=PySem.intKind PG W.w) S.N h1 h3 h2 (intKind_is _ _ _ _) _ rfl (hQ _ _ _ _ _ h ⟨g,tk+1,m1,cm,ob,cel,frz,S,.cons ?_ hv⟩)
 rcases h4.get x with ⟨q1,q2⟩ | ⟨v',m',q1,q2,q3⟩
 · rw [q1,q2];exact hd
 · rw [q1,q2];exact q3
theorem O2.mk {t:Value->Value->Sem Value} {K:KV} {m1 m2 m:MV} (h:K m vals own) (hm:∀N v1 v2 A E s (Q:Value->Shared->Prop),MIn W.w N v1 m1->MIn W.w N v2 m2->(∀v k,(∀N',MIn W.w N' v m)->Q v {s with toks:=k})->wpAny (model PG W.w) A (t v1 v2) Q E s):O2 c t K m1 m2 vals own:=by
 intro v1 v2 s vs ms Q a hQ
 refine Cx.AtI.el2 a λ g tk m0 cm ob cel frz S h2 h1 hv=>?_
 exact hm frz v1 v2 _ _ _ _ h1 h2 λ v k hv'=>hQ v m _ vals own h ⟨g,k,m0,cm,ob,cel,frz,S,.cons (hv' _) hv⟩
theorem kC2.eq {a b:Int} {K:KV} {d:Bool} (e:(a == b)=d) (h:K (.bool d) vals own):kC2 c .Eq (.int a) K (.int b) vals own:=O2.mk h λ N v1 v2 A E s Q h1 h2 q=>by
 refine h1.intE λ t=>?_;refine h2.intE λ u=>?_;exact eq_int (by rw [e];exact q _ s.toks λ zz=>.bool _)
theorem kC2.ne {a b:Int} {K:KV} {d:Bool} (e:(a != b)=d) (h:K (.bool d) vals own):kC2 c .NotEq (.int a) K (.int b) vals own:=O2.mk h λ N v1 v2 A E s Q h1 h2 q=>by
 refine h1.intE λ t=>?_;refine h2.intE λ u=>?_;exact ne_int (by rw [e];exact q _ s.toks λ zz=>.bool _)
theorem kC2.lt {a b:Int} {K:KV} {d:Bool} (e:decide (a < b)=d) (h:K (.bool d) vals own):kC2 c .Lt (.int a) K (.int b) vals own:=O2.mk h λ N v1 v2 A E s Q h1 h2 q=>by
 refine h1.intE λ t=>?_;refine h2.intE λ u=>?_;exact PyProof.Rows.lt_int (by rw [e];exact q _ s.toks λ zz=>.bool _)
theorem kC2.gt {a b:Int} {K:KV} {d:Bool} (e:decide (b < a)=d) (h:K (.bool d) vals own):kC2 c .Gt (.int a) K (.int b) vals own:=O2.mk h λ N v1 v2 A E s Q h1 h2 q=>by
 refine h1.intE λ t=>?_;refine h2.intE λ u=>?_;exact PyProof.Rows.gt_int (by rw [e];exact q _ s.toks λ zz=>.bool _)
theorem kC2.le {a b:Int} {K:KV} {d:Bool} (e:decide (a<=b)=d) (h:K (.bool d) vals own):kC2 c .LtE (.int a) K (.int b) vals own:=O2.mk h λ N v1 v2 A E s Q h1 h2 q=>by
 refine h1.intE λ t=>?_;refine h2.intE λ u=>?_;exact PyProof.Rows.le_int (by rw [e];exact q _ s.toks λ zz=>.bool _)
theorem kC2.ge {a b:Int} {K:KV} {d:Bool} (e:decide (b<=a)=d) (h:K (.bool d) vals own):kC2 c .GtE (.int a) K (.int b) vals own:=O2.mk h λ N v1 v2 A E s Q h1 h2 q=>by
 refine h1.intE λ t=>?_;refine h2.intE λ u=>?_;exact PyProof.Rows.ge_int (by rw [e];exact q _ s.toks λ zz=>.bool _)
theorem kC2.isN {m:MV} {K:KV} (hm:m≠.none) (h:K (.bool false) vals own):kC2 c .Is m K .none vals own:=O2.mk h λ N v1 v2 A E s Q h1 h2 q=>by
 refine h2.noneE ?_
 exact is_none_ne (by rcases h1.isNone with ⟨_,e⟩ | ⟨e,_⟩;exact absurd e hm;exact e) (q _ s.toks λ zz=>.bool _)
theorem kC2.isY {K:KV} (h:K (.bool true) vals own):kC2 c .Is .none K .none vals own:=O2.mk h λ N v1 v2 A E s Q h1 h2 q=>by
 refine h2.noneE ?_;refine h1.noneE ?_;exact is_none_none (q _ s.toks λ zz=>.bool _)
theorem kC2.isnotN {m:MV} {K:KV} (hm:m≠.none) (h:K (.bool true) vals own):kC2 c .IsNot m K .none vals own:=O2.mk h λ N v1 v2 A E s Q h1 h2 q=>by
 refine h2.noneE ?_
 exact isnot_none_ne (by rcases h1.isNone with ⟨_,e⟩ | ⟨e,_⟩;exact absurd e hm;exact e) (q _ s.toks λ zz=>.bool _)
theorem kC2.isnotY {K:KV} (h:K (.bool false) vals own):kC2 c .IsNot .none K .none vals own:=O2.mk h λ N v1 v2 A E s Q h1 h2 q=>by
 refine h2.noneE ?_;refine h1.noneE ?_;exact isnot_none_none (q _ s.toks λ zz=>.bool _)
noncomputable def kIsi (c:Cx W I r) (cv:Value) (K:KV):KV:=λ m vals own=>O1 c (λ v=>call (.builtin "isinstance") [v,cv]) K m vals own
noncomputable def ClsIs (W:Wd) (x:Str) (cv:Value):Prop:=nsIn (KH W) mainGlobals x=some (some cv)\/(nsIn (KH W) mainGlobals x=some none/\bootBuiltins x=some cv/\x≠Str.ofString "__name__")
theorem name_cls {x:Str} {p:Pos} {cv:Value} (hc:ClsIs W x cv) (hx:(cEnv I 0 0).kindOf x=some .globalImplicit) (hd:(x == ("__debug__":Str))=false) {s:Shared} {vs:List Value} {ms:List MV} {Q:Value->Shared->Prop} (a:c.At s vals own vs ms) (hQ:Q cv s):wpAny (model PG W.w) c.A (eval (.Name x p) c.env) Q c.E s:=by
 revert hQ
 refine Cx.AtI.el a λ g tk m cm ob cel frz S hv hQ=>?_
 have hg:c.env.globals=mainGlobals:=cEnv_gl
 have hb:c.env.builtins=builtinsNs:=cEnv_bl
 rcases hc with hf | ⟨hf,hv',hn⟩
 · exact Name_function_global (cEnv_fk.trans S.k.ok.fk) (cEnv_kind.trans hx) (loadGlobal_global (mg:=W.mg) (v:=cv) (by rw [hg];exact S.k.T.g.keeps S.F.keep) (mg_of S.k.X S.k.T.g hf) hQ) hd
 · exact Name_function_global (cEnv_fk.trans S.k.ok.fk) (cEnv_kind.trans hx) (loadGlobal_builtin (mg:=W.mg) (mb:=W.mb) (v:=cv) (by rw [hg];exact S.k.T.g.keeps S.F.keep) (mg_none_of S.k.X S.k.T.g hf) (by rw [hb];exact S.k.T.b.keeps S.F.keep) ((S.k.T.builtins x hn).trans hv') hQ) hd
theorem WE.isi {e:Expr} {x:Str} {p p' p2:Pos} {cv:Value} {K:KV} (h:WE c e (kIsi c cv K) vals own) (hc:ClsIs W x cv) (hi:ClsIs W (Str.ofString "isinstance") (.builtin "isinstance")) (hx:(cEnv I 0 0).kindOf x=some .globalImplicit) (hx2:(cEnv I 0 0).kindOf (Str.ofString "isinstance")=some .globalImplicit) (hd:(x == ("__debug__":Str))=false)
 (he1:autoParam (∀env,starEach [e,.Name x p2] env=(false,eval e env)::starEach [.Name x p2] env) aK) (he2:autoParam (∀env,starEach [.Name x p2] env=(false,eval (.Name x p2) env)::starEach [] env) aK)
 (hp:autoParam (∀env,(backTo p (starEach [.Name x p2] env)).any (λ zz=>zz.1)=false) aK)
 (hc':autoParam (∀env,eval (.Call (.Name (Str.ofString "isinstance") p') [e,.Name x p2] [] p) env=(do callWith p (←eval (.Name (Str.ofString "isinstance") p') env) [] (backTo p (starEach [e,.Name x p2] env)) (backToKw p (keywordEach [] env)))) aK):WE c (.Call (.Name (Str.ofString "isinstance") p') [e,.Name x p2] [] p) K vals own:=by
 intro s vs ms Q a hQ
 refine Call_ (name_cls hi hx2 (by decide+kernel) a ?_) (hc' _)
 refine PyProof.Rows.callWith_builtin1 (args_cons (h s vs ms _ a λ v mv s' vals' own' hk a'=>?_) (he1 _)) (he1 _) (hp _)
 refine args_cons (name_cls hc hx hd a' (args_nil ?_)) (he2 _)
 exact hk v s' vs ms Q a' hQ
theorem kIsi.mk {cv:Value} {K:KV} {m:MV} {b:Bool} (e:kitOne (KH W) (mType m) cv=some b) (hc:∀C fs,m = .inst C fs->OwnCls W.w C) (hp:∀a,m≠.ptr a) (h:K (.bool b) vals own):kIsi c cv K m vals own:=by
 intro v s vs ms Q a hQ
 refine Cx.AtI.el1 a λ g tk m1 cm ob cel frz S hi hv=>?_
 exact isi_kd (S.k.X.keeps S.F.keep) S.pure (hi.kd hc hp) (λ zz h=>h) e λ tk'=>hQ _ _ _ _ _ h ⟨g,tk',m1,cm,ob,cel,frz,S,.cons (.bool _) hv⟩
theorem kIsi.dct {cv:Value} {K:KV} {a:Addr} {kvs:List (Str×MV)} {b:Bool} (hm:(a,OV.dct kvs)∈own) (e:kitOne (KH W) (.type "dict") cv=some b) (h:K (.bool b) vals own):kIsi c cv K (.ptr a) vals own:=by
 intro v s vs ms Q a hQ
 refine Cx.AtI.el1 a λ g tk m1 cm ob cel frz S hi hv=>?_
 refine hi.ptrE ?_
 refine E1_2 (S.ow.at hm) λ o h1 h2=>?_
 cases h2 with
 | dct lo hd hk =>
 refine kia_one kitx_dict (S.k.X.keeps S.F.keep) (kitAt_S (prog:=PG) (w:=W.w) S.N (by k_flat) hd) e (by intro e;f_shut e) λ tk'=>hQ _ _ _ _ _ h ⟨g,tk',m1,cm,ob,cel,frz,S,.cons (.bool _) hv⟩
theorem isi_bi:ClsIs W (Str.ofString "isinstance") (.builtin "isinstance"):=.inr ⟨by kernel_rfl,by kernel_rfl,by decide⟩
theorem cls_ref:ClsIs W (Str.ofString "Reference") (.ref 254):=.inl (by kernel_rfl)
theorem cls_name:ClsIs W (Str.ofString "Name") (.ref 183):=.inl (by kernel_rfl)
theorem cls_list:ClsIs W (Str.ofString "list") (.type "list"):=.inr ⟨by kernel_rfl,by kernel_rfl,by decide⟩
theorem cls_dict:ClsIs W (Str.ofString "dict") (.type "dict"):=.inr ⟨by kernel_rfl,by kernel_rfl,by decide⟩
theorem cls_int:ClsIs W (Str.ofString "int") (.type "int"):=.inr ⟨by kernel_rfl,by kernel_rfl,by decide⟩
theorem cls_bool:ClsIs W (Str.ofString "bool") (.type "bool"):=.inr ⟨by kernel_rfl,by kernel_rfl,by decide⟩
noncomputable abbrev kIfE (c:Cx W I r) (a b:Expr) (K:KV):KB:=λ t vals own=>match t with | true=>WE c a K vals own | false=>WE c b K vals own
theorem WE.ite {t a b:Expr} {p:Pos} {K:KV} (h:WT c t (kIfE c a b K) vals own):WE c (.IfExp t a b p) K vals own:=by
 intro s vs ms Q at' hQ
 refine IfExp_ (h s vs ms _ at' λ b s' vals' own' hk a'=>?_)
 cases b <;> exact hk s' vs ms Q a' hQ
inductive NtL (ns:List (Str×Bool)):Vs->List (Str×MV)->Vs->Prop
 | nil {u0}:NtL ns u0 [] u0
 | cons {u0 x b m u1 l u2}:Nt ns u0 x b m u1->NtL ns u1 l u2->NtL ns u0 ((x,m)::l) u2
theorem assign_names {K:Unit->Shared->Prop} (hcp:I.cp=none) {xs:List Str}:∀ {l:List MV} {ws:List Value} {u u':Vs} {s:Shared} {vs:List Value} {ms:List MV},xs.length=l.length->ws.length=l.length->NtL I.names u (xs.zip l) u'->c.At s u own (ws++vs) (l++ms) ->
 (∀s',c.At s' u' own vs ms->K () s')->wpAny (model PG W.w) c.A (assignInOrder (xs.map λ n=>bindName c.env n) ws) K c.E s:=by
 induction xs with
 | nil =>
  intro l ws u u' s vs ms e1 e2 t a h
  induction l with
  | nil =>
   induction ws with
   | nil=>f_shut t;exact assignInOrder_nil (h _ a)
   | cons _ _=>f_shut e2
  | cons _ _=>f_shut e1
 | cons x xs ih =>
  intro l ws u u' s vs ms e1 e2 t a h
  induction l with
  | nil=>f_shut e1
  | cons m l =>
   induction ws with
   | nil=>f_shut e2
   | cons w ws =>
    cases t with
    | cons t1 t2=>exact assignInOrder_cons (wpAny_bindName (WX.store hcp t1 a λ s' a'=>ih (by simpa using e1) (by simpa using e2) t2 a' h))
noncomputable def kUnp (c:Cx W I r) (xs:List Str) (rev:Bool) (rest:List Stmt) (K:KS):KV:=λ m vals own=>∃l vals',m = .tup l/\xs.length=l.length/\NtL I.names vals (match rev with | true=>xs.reverse.zip l.reverse | false=>xs.zip l) vals'/\WS c rest K vals' own
theorem kUnp.f {xs:List Str} {rest:List Stmt} {K:KS} {l:List MV} (e:xs.length=l.length) (n:NtL I.names vals (xs.zip l) vals') (h:WS c rest K vals' own):kUnp c xs false rest K (.tup l) vals own:=⟨l,vals',rfl,e,n,h⟩
theorem kUnp.t {xs:List Str} {rest:List Stmt} {K:KS} {l:List MV} (e:xs.length=l.length) (n:NtL I.names vals (xs.reverse.zip l.reverse) vals') (h:WS c rest K vals' own):kUnp c xs true rest K (.tup l) vals own:=⟨l,vals',rfl,e,n,h⟩
theorem WS.unpS {elts:List Expr} {k:Nat} {tp p:Pos} {value:Expr} {names:List Str} {rest:List Stmt} {K:KS} (h:WE c value (kUnp c names true rest K) vals own) (hs:autoParam (∀env,swapsWithSole [.Tuple elts k tp] value p.line env=pure false) aK)
 (hw:autoParam (∀L,swappedStores [.Tuple elts k tp] value (fEnv I L)=pure (some names)) aK) (hcp:autoParam (I.cp=none) aK) (hhb:autoParam (I.hb=false) aK):WS c (.Assign [.Tuple elts k tp] value p::rest) K vals own:=by
 intro s Q a hQ
 have he:c.env=fEnv I c.L:=by unfold Cx.env cEnv;rw [hcp]
 refine wpAny_execs_cons (Assign_Tuple_swapped (names:=names) (h s [] [] _ a λ v mv s' vals' own' hk a'=>?_) (hs _) (by rw [he];exact hw _))
 refine E2_4 hk λ l vals2 e7_2 el n hw'=>?_;clear hk;subst e7_2
 refine Cx.AtI.el1 a' λ g tk m cm ob cel frz S hi hv=>?_
 refine tup_el hi λ t us k' h1 h2=>?_
 have hA:c.A.handled=none:=S.k.hhb hhb
 refine unpackItemsN_ (m:=m) (L:=c.L) (h₀:=c.h₀) (news:=c.all ob cel frz) (items:=us.toArray) S.F S.N ⟨_,(S.pure _ h1).1,rfl,_,rfl⟩ hA (by rw [List.size_toArray,h2.length,el]) λ h' F' N'=>?_
 refine assign_names (l:=l.reverse) (ms:=[]) hcp (by simp [el]) (by simp [h2.length]) n ⟨h',tk,m,cm,ob,cel,frz,S.s0.st F' N',h2.reverse.append hv⟩ λ s2 a2=>hw' s2 Q a2 hQ
end
section
variable {W:Wd} {I:Info} {r:Nat} {c:Cx W I r} {vals vals':Vs} {own own':Ow}
theorem WE.glob {x:Str} {p:Pos} {v:Value} {m:MV} {K:KV} (hm:∀N,MIn W.w N v m) (hc:ClsIs W x v) (hx:(cEnv I 0 0).kindOf x=some .globalImplicit) (h:K m vals own) (hd:(x == ("__debug__":Str))=false:=by decide+kernel):WE c (.Name x p) K vals own:=by
 intro s vs ms Q a hQ
 exact name_cls hc hx hd a (hQ v m s vals own h (a.push hm))
noncomputable def kRng (c:Cx W I r) (x:Str) (body:List Stmt) (K:KS):KV:=λ m vals own=>∀v s Q,c.At s vals own [v] [m]->c.PF K Q ->
 wpAny (model PG W.w) c.A (call (.type "range") [v]) (λ xv s₁=>wpAny (model PG W.w) c.A (pyIter xv) (λ it s₂=>LoopAtV PG W.w c.A c.h₀ c.env x body Q c.E it s₂) c.E s₁) c.E s
theorem WS.forR {x:Str} {px pos p p':Pos} {e:Expr} {body rest:List Stmt} {K:KS} (h:WE c e (kRng c x body (kSeq c rest K)) vals own) (hr:ClsIs W (Str.ofString "range") (.type "range")) (hx2:(cEnv I 0 0).kindOf (Str.ofString "range")=some .globalImplicit) (hcp:autoParam (I.cp=none) aK) (hx:autoParam (I.cs.names.lookup x=some .local) aQ)
 (he1:autoParam (∀env,starEach [e] env=(false,eval e env)::starEach [] env) aK) (hp:autoParam ((backTo p (starEach [] c.env)).any (λ zz=>zz.1)=false) aK)
 (hc':autoParam (∀env,eval (.Call (.Name (Str.ofString "range") p') [e] [] p) env=(do callWith p (←eval (.Name (Str.ofString "range") p') env) [] (backTo p (starEach [e] env)) (backToKw p (keywordEach [] env)))) aK)
 (hs:autoParam (∀env x,foldedSetIterable (.Call (.Name (Str.ofString "range") p') [e] [] p) env x=pure x) aK):WS c (.For (.Name x px) (.Call (.Name (Str.ofString "range") p') [e] [] p) body [] pos::rest) K vals own:=by
 refine WS.cons λ s Q a hQ=>?_
 have he:c.env=fEnv I c.L:=by unfold Cx.env cEnv;rw [hcp]
 refine Cx.AtI.el a λ g tk m cm ob cel frz S hv=>?_
 have a0:=Cx.AtI.mk (c:=c) g tk m cm ob cel frz S hv
 have hp1:(c.env.scope.kind == .class || (c.env.scope.kind == .module && c.env.locals != c.env.globals))=false:=by
  rw [he];show (I.cs.kind == .class || (I.cs.kind == .module && _))=false;rw [S.k.ok.hk];rfl
 refine For_invVF (m:=m) (h₀:=c.h₀) (by rw [he];exact S.F) (by rw [he];exact hx) hp1 ?_ (λ x=>hs _ x) (by have:=S.k.po hcp;rw [he];exact this)
 refine Call_ (name_cls hr hx2 (by decide+kernel) a0 ?_) (hc' _)
 refine callWith_type1 (args_cons (h _ [] [] _ a0 λ v mv s' vals' own' hk a'=>?_) (he1 _)) (he1 _) hp
 exact args_nil (hk v s' Q a' hQ)
theorem kRng.mk {x:Str} {body:List Stmt} {K:KS} {n:Nat} (J:Nat->Vs->Ow->Prop) (h0:J 0 vals own)
 (turn:∀ (c':Cx W I r) i vals own,i < n->J i vals own->∃vals',Nt I.names vals x false (.int i) vals'/\WS c' body (kTurn J i K) vals' own) (done:∀vals own,J n vals own->K .nx vals own) (hn:autoParam (n<=100000) aD) (hcp:autoParam (I.cp=none) aR) (hhb:autoParam (I.hb=false) aR) :
 kRng c x body K (.int n) vals own:=by
 intro v s Q a hQ
 refine Cx.AtI.el1 a λ g tk m cm ob cel frz S hi hv=>?_
 refine hi.intE λ t=>?_
 have he:(c.more [] frz).env.locals=c.L:=by unfold Cx.env cEnv;rw [hcp];rfl
 refine range1_rows S.F S.N λ h' tk' t₁ u₁ v₁ hr F' N' zz=>?_
 refine for_core (c:=c.more [] frz) (l:=(List.range n).map λ (i:Nat)=>MV.int i) (Src:=[]) (Rel:=λ i v=>i < n/\∃t,v = .int (0+(i:Int)) t) J hcp hhb h0 ?_ done (S.s0.st F' N').fixed (hQ.less hcp hhb S.fx) (λ p hp=>nomatch hp) ?_ λ J' hj keep turn' done'=>?_
 · intro c' i m vals own zz hm hJ
   rw [getElem?_map] at hm
   refine E1_2 (Option.map_eq_some_iff.mp hm) λ j hj e0_2=>?_;subst e0_2
   obtain ⟨h1,h2⟩:=List.getElem?_eq_some_iff.mp hj
   rw [List.getElem_range] at h2
   subst h2
   exact turn c' i vals own (by simpa using h1) hJ
 · rintro i v ⟨hi,t,rfl⟩
   refine ⟨.int i,by simp [hi],?_⟩
   rw [show (0:Int)+i=i by simp+arith];exact .int _ _
 · exact loop_range n J' (S.k.hhb hhb) hr (small_one (by exact Int.natCast_nonneg _) (by exact Int.natCast_nonneg _) (by exact Int.natCast_nonneg _) (by lia)) (by rw [rangeSize_one];split <;> lia) (by rw [he];exact F') (by rw [he];exact N') hj (λ i t m₁ nx h tk it hi=>turn' i _ m₁ nx h tk it ⟨hi,t,rfl⟩) done'
theorem Cx.St.newAt {g h':Heap} {tk:Nat} {m cm:Str->Option Value} {ob cel frz:Lg} {vs:List Value} {ms:List MV} {a:Addr} {o:Obj} {ov:OV} (S:c.St g m cm ob cel frz vals own) (hv:MAll W.w frz vs ms) (F':Fr c.h₀ c.L h' m) (N':News c.h₀ c.L h' ((a,o)::c.all ob cel frz))
 (lt:∀p∈c.all ob cel frz,p.1 < a) (ho:OIn W.w frz a o ov):c.At {c.s with heap:=h',toks:=tk} vals ((a,ov)::own) (.ref a::vs) (.ptr a::ms) :=
 ⟨h',tk,m,cm,(a,o)::ob,cel,frz,S.new F' N' (λ q hq=>Nat.ne_of_lt (lt q hq)) ho,.cons (.ptr _) hv⟩
theorem WE.dict0 {p:Pos} {K:KV} (h:∀a,K (.ptr a) vals ((a,.dct [])::own)):WE c (.Dict [] [] p) K vals own:=by
 intro s vs ms Q a hQ
 refine Cx.AtI.el a λ g tk m cm ob cel frz S hv=>?_
 exact newDict_K (h₀:=c.h₀) (L:=c.L) S.F S.N S.k.T.nolimit λ d h' o F' N' lt lo hs zz zz zz=>hQ _ _ _ _ _ (h d) (S.newAt hv F' N' lt (.dct lo hs .nil))
theorem WE.ict0 {p:Pos} {K:KV} (h:∀a,K (.ptr a) vals ((a,.ict [])::own)):WE c (.Dict [] [] p) K vals own:=by
 intro s vs ms Q a hQ
 refine Cx.AtI.el a λ g tk m cm ob cel frz S hv=>?_
 exact newDict_K (h₀:=c.h₀) (L:=c.L) S.F S.N S.k.T.nolimit λ d h' o F' N' lt lo zz zz hi zz=>hQ _ _ _ _ _ (h d) (S.newAt hv F' N' lt (.ict lo hi .nil))
noncomputable def kLst (K:KV):KL:=λ l vals own=>l.length<=1000/\∀a,K (.ptr a) vals ((a,.lst l)::own)
theorem kLst.mk {K:KV} {l:List MV} (h:∀a,K (.ptr a) vals ((a,.lst l)::own)) (hz:autoParam (l.length<=1000) aB):kLst K l vals own:=⟨hz,h⟩
theorem WE.lst {es:List Expr} {p:Pos} {K:KV} (h:WA c es (kLst K) vals own):WE c (.List es p) K vals own:=by
 intro s vs ms Q a hQ
 refine List_ (h p s vs ms _ a λ ws l s' vals' own' hk e a'=>?_)
 refine Cx.AtI.elS a' e λ g tk m cm ob cel frz S hw hv=>?_
 refine newList_N S.F S.N (λ h' F' N'=>hQ _ _ _ _ _ (hk.2 _) (S.newAt (ov:=.lst l) hv F' N' (λ p hp=>Heap.lt_size (S.N p hp).1) (.lst hw))) ?_
 rw [e];exact Nat.le_trans hk.1 (by decide)
inductive Dl:Ow->Addr->OV->Ow->Prop
 | head {a:Addr} {ov:OV} {r:Ow}:Dl ((a,ov)::r) a ov r
 | tail {a:Addr} {ov:OV} {p:Addr×OV} {r r':Ow}:Dl r a ov r'->Dl (p::r) a ov (p::r')
theorem OAll.dl {w:World} {N:Lg} {ob:Lg} {own own':Ow} {a:Addr} {ov:OV} (h:OAll w N ob own) (u:Dl own a ov own'):∃pre o post,ob=pre++(a,o)::post/\OIn w N a o ov/\OAll w N (pre++post) own':=by
 induction u generalizing ob with
 | head=>exact h.cn λ zz zz h1 h2=>⟨[],_,_,rfl,h1,h2⟩
 | tail u ih=>exact h.cn λ zz zz h1 h2=>E3_3 (ih h2) λ pre o post e q1 q2=>⟨_::pre,o,post,congrArg _ e,q1,.cons h1 q2⟩
theorem Cx.St.eDl {G:Prop} {g:Heap} {m cm:Str->Option Value} {ob cel frz:Lg} {a:Addr} {ov:OV} (S:c.St g m cm ob cel frz vals own) (u:Dl own a ov own') (k:∀pre o post,c.St g m cm (pre++(a,o)::post) cel frz vals own->OIn W.w frz a o ov->OAll W.w frz (pre++post) own'->G):G:=E3_3 (S.ow.dl u) λ pre o post e q1 q2=>k pre o post (e ▸ S) q1 q2
theorem Cx.St.freeze {g:Heap} {m cm:Str->Option Value} {pre post cel frz:Lg} {a:Addr} {o:Obj} {u:Vs} {own0:Ow} (S:c.St g m cm (pre++(a,o)::post) cel frz u own0) (ho:OAll W.w frz (pre++post) own') (hk:∀ {N},Ext frz N->(a,o)∈N->c.Kn m cm N I.names vals'):c.St g m cm (pre++post) cel ((a,o)::frz) vals' own':=by
 obtain ⟨o1,o2⟩:=S.off
 refine ⟨S.k,S.F,λ p hp=>S.N p ?_,?_,λ p hp q hq=>S.ao p ?_ q hq,λ p hp q hq=>?_,ho.mono λ zz h=>.tail _ h,S.cc,hk (λ zz h=>.tail _ h) (.head _),S.hi.mono λ p hp=>?_,λ p hp=>.tail _ (S.fx p hp),S.fm⟩
 · simp only [mem_append,mem_cons] at hp ⊢
   rcases hp with (q | q) | q | q | q | q <;> simp [q]
 · have:=S.nd
   simp only [map_append,map_cons,append_assoc,cons_append] at this ⊢
   rw [nodup_append] at this ⊢
   refine E0_3 this λ h1 h2 h3=>?_;clear this
   exact ⟨h1,(nodup_cons.mp h2).2,λ x hx y hy=>h3 x hx y (.tail _ hy)⟩
 · kso_open hp
 · have hp':p∈pre++(a,o)::post++(cel++c.old)/\p.1≠a:=by
    simp only [mem_append] at hp
    rcases hp with (q | q) | q | q
    · exact ⟨by simp [q],o1 p q⟩
    · exact ⟨by simp [q],o2 p (by k_flat)⟩
    · exact ⟨by simp [q],o2 p (by k_flat)⟩
    · exact ⟨by simp [q],o2 p (by k_flat)⟩
   rcases mem_cons.mp hq with rfl | hq
   · exact hp'.2
   · exact S.af p hp'.1 q hq
 · kso_open hp
noncomputable def kFrz (K:KV):KV:=λ m vals own=>∃a ov own',m = .ptr a/\Dl own a ov own'/\OV.frz ov/\K ov.mv vals own'
theorem WE.frz {e:Expr} {K:KV} (h:WE c e (kFrz K) vals own):WE c e K vals own:=by
 intro s vs ms Q a hQ
 refine h s vs ms Q a λ v mv s' vals2 own2 hk a'=>?_
 obtain ⟨a,ov,own3,rfl,d,f,hk⟩:=hk
 refine Cx.AtI.el1 a' λ g tk m cm ob cel frz S hi hv=>?_
 refine hi.ptrE ?_
 refine S.eDl d λ pre o post S q1 q2=>?_
 exact hQ _ _ _ _ _ hk ⟨g,tk,m,cm,_,cel,_,S.freeze q2 λ hs zz=>S.kn.mono hs,.cons (q1.frz f _ (λ zz h=>.tail _ h) (.head _)) (hv.mono λ zz h=>.tail _ h)⟩
theorem kFrz.dct {a:Addr} {kvs:List (Str×MV)} {K:KV} (d:Dl own a (.dct kvs) own') (h:K (.dct kvs) vals own'):kFrz K (.ptr a) vals own:=⟨a,_,_,rfl,d,.dct,h⟩
theorem kFrz.lst {a:Addr} {l:List MV} {K:KV} (d:Dl own a (.lst l) own') (h:K (.lst l) vals own'):kFrz K (.ptr a) vals own:=⟨a,_,_,rfl,d,.lst,h⟩
inductive Fz (a:Addr) (m:MV):Vs->Vs->Prop
 | nil:Fz a m [] []
 | same {x u u'}:Fz a m u u'->Fz a m (x::u) (x::u')
 | frz {u u'}:Fz a m u u'->Fz a m (some (.ptr a)::u) (some m::u')
theorem Cx.Kn.fz {m cm:Str->Option Value} {N N':Lg} {a:Addr} {mv:MV} {ns:List (Str×Bool)} {u u':Vs} (f:Fz a mv u u') (hs:Ext N N') (hm:MIn W.w N' (.ref a) mv) (k:c.Kn m cm N ns u):c.Kn m cm N' ns u':=by
 induction f generalizing ns with
 | nil=>exact All2.nl k .nil
 | same f ih=>exact All2.cn k λ p ns h k=>.cons (λ mv e=>E1_2 (h mv e) λ v a b=>⟨v,a,b.mono hs⟩) (ih k)
 | frz f ih=>exact All2.cn k λ p ns h k=>E1_2 (h _ rfl) λ v a b=>.some (v:=v) a (b.ptr_eq ▸ hm) (ih k)
theorem WS.frz {b:List Stmt} {K:KS} {a:Addr} {ov:OV} (d:Dl own a ov own') (o:OV.frz ov) (f:Fz a ov.mv vals vals') (h:WS c b K vals' own'):WS c b K vals own:=by
 intro s Q a hQ
 refine Cx.AtI.el a λ g tk m cm ob cel frz S hv=>?_
 refine S.eDl d λ pre ob post S q1 q2=>?_
 exact h _ Q ⟨g,tk,m,cm,_,cel,_,S.freeze q2 λ hs hm=>S.kn.fz f hs (q1.frz o _ hs hm),.nil⟩ hQ
inductive Fg:Vs->Vs->Prop
 | nil:Fg [] []
 | same {x u u'}:Fg u u'->Fg (x::u) (x::u')
 | off {x u u'}:Fg u u'->Fg (x::u) (none::u')
theorem WS.fg {b:List Stmt} {K:KS} (f:Fg vals vals') (h:WS c b K vals' own):WS c b K vals own:=by
 intro s Q a hQ
 refine Cx.AtI.el a λ g tk m cm ob cel frz S hv=>?_
 refine h _ Q ⟨g,tk,m,cm,ob,cel,frz,⟨S.k,S.F,S.N,S.nd,S.ao,S.af,S.ow,S.cc,?_,S.hi,S.fx,S.fm⟩,.nil⟩ hQ
 have key:∀ {u u':Vs} {ns:List (Str×Bool)},Fg u u'->c.Kn m cm frz ns u->c.Kn m cm frz ns u':=by
  intro u u' ns f
  induction f generalizing ns with
  | nil=>exact id
  | same f ih=>exact λ k=>All2.cn k λ p ns h k=>.cons h (ih k)
  | off f ih=>exact λ k=>All2.cn k λ p ns h k=>.none (ih k)
 exact key f S.kn
noncomputable def kDict (K:KV):KV:=λ m vals own=>∃kvs,RdS own m kvs/\kvs.length<=900/\∀a,K (.ptr a) vals ((a,.dct kvs)::own)
theorem kDict.mk {K:KV} {m:MV} {kvs:List (Str×MV)} (R:RdS own m kvs) (hz:kvs.length<=900) (h:∀a,K (.ptr a) vals ((a,.dct kvs)::own)):kDict K m vals own:=⟨kvs,R,hz,h⟩
theorem WE.dictC {e:Expr} {p p':Pos} {K:KV} (h:WE c e (kDict K) vals own) (hx:(cEnv I 0 0).kindOf (Str.ofString "dict")=some .globalImplicit)
 (he1:autoParam (∀env,starEach [e] env=(false,eval e env)::starEach [] env) aK) (hp:autoParam ((backTo p (starEach [] c.env)).any (λ zz=>zz.1)=false) aK)
 (hc':autoParam (∀env,eval (.Call (.Name (Str.ofString "dict") p') [e] [] p) env=(do callWith p (←eval (.Name (Str.ofString "dict") p') env) [] (backTo p (starEach [e] env)) (backToKw p (keywordEach [] env)))) aK) :
 WE c (.Call (.Name (Str.ofString "dict") p') [e] [] p) K vals own:=by
 intro s vs ms Q a hQ
 refine Call_ (name_cls cls_dict hx (by decide+kernel) a ?_) (hc' _)
 refine callWith_type1 (args_cons (h _ vs ms _ a λ v mv s' vals' own' hk a'=>args_nil ?_) (he1 _)) (he1 _) hp
 refine E1_3 hk λ kvs R hz hk=>?_
 refine Cx.AtI.el1 a' λ g tk m cm ob cel frz S hi hv=>?_
 refine R.el S hi λ d o pvs h1 h2 h3 h4=>?_
 exact dictCopyL S.F S.N S.k.T.nolimit h1 h2 h3 (by rw [h4.length];exact Nat.le_trans (by assumption) (by decide)) λ D h' o' F' N' lt lo hd=>hQ _ _ _ _ _ (hk D) (S.newAt hv F' N' lt (.dct lo hd h4))
noncomputable def kSet (c:Cx W I r) (K:Vs->Ow->Prop):MV->MV->KV:=λ mv mo mi vals own=>∀v ov iv s vs ms (Q:Unit->Shared->Prop),c.At s vals own (iv::ov::v::vs) (mi::mo::mv::ms)->(∀s' vals' own',K vals' own'->c.At s' vals' own' vs ms->Q () s')->wpAny (model PG W.w) c.A (setItem ov iv v) Q c.E s
noncomputable abbrev kSt2 (c:Cx W I r) (mv:MV) (i:Expr) (K:Vs->Ow->Prop):KV:=λ mo vals own=>WE c i (kSet c K mv mo) vals own
noncomputable abbrev kSt1 (c:Cx W I r) (o i:Expr) (K:Vs->Ow->Prop):KV:=λ mv vals own=>WE c o (kSt2 c mv i K) vals own
theorem WS.set {o i value:Expr} {p p':Pos} {rest:List Stmt} {K:KS} (h:WE c value (kSt1 c o i (WS c rest K)) vals own) (hs:autoParam (∀env,swapsWith value (some (.Subscript o i p')) p.line env=pure false) aK):WS c (.Assign [.Subscript o i p'] value p::rest) K vals own:=by
 intro s Q a hQ
 refine wpAny_execs_cons (wpAny_Assign_Subscript (h s [] [] _ a λ v mv s1 vals1 own1 hk a1=>?_) (hs _))
 refine hk s1 _ _ _ a1 λ ov mo s2 vals2 own2 hk2 a2=>?_
 refine hk2 s2 _ _ _ a2 λ iv mi s3 vals3 own3 hk3 a3=>?_
 exact hk3 v ov iv s3 [] [] _ a3 λ s' vals' own' hk4 a4=>hk4 s' Q a4 hQ
theorem kSet.str {K:Vs->Ow->Prop} {mv:MV} {a:Addr} {kvs:List (Str×MV)} {x:Str} (u:Up own a (.dct kvs) (.dct (mPut kvs x mv)) own') (hz:kvs.length<=900) (h:K vals own'):kSet c K mv (.ptr a) (.str x) vals own:=by
 intro v ov iv s vs ms Q a hQ
 refine Cx.AtI.el3 a λ g tk m cm ob cel frz S h1 h2 h3 hv=>?_
 refine h1.strE λ t=>?_
 refine h2.ptrE ?_
 refine S.eUp u λ pre o post S q1 q2=>q1.dctE λ pvs lo hd hk=>?_
 refine kda_set (knd:=PySem.strKind PG W.w) S.F S.N S.updF hd (strKind_is _ _ _ _) (by rw [hk.length];exact Nat.le_trans hz (by decide)) λ h' o' F' N' hd'=>?_
 exact hQ _ _ _ h ⟨h',tk+1,m,cm,_,cel,frz,S.set F' N' (q2 o' (.dct lo hd' (hk.put h3))),hv⟩
theorem kSet.int {K:Vs->Ow->Prop} {mv:MV} {a:Addr} {kvs:List (Int×MV)} {x:Int} (u:Up own a (.ict kvs) (.ict (mPut kvs x mv)) own') (hz:kvs.length<=900) (h:K vals own'):kSet c K mv (.ptr a) (.int x) vals own:=by
 intro v ov iv s vs ms Q a hQ
 refine Cx.AtI.el3 a λ g tk m cm ob cel frz S h1 h2 h3 hv=>?_
 refine h1.intE λ t=>?_
 refine h2.ptrE ?_
 refine S.eUp u λ pre o post S q1 q2=>q1.ictE λ pvs lo hd hk=>?_
 refine kda_set (knd:=PySem.intKind PG W.w) S.F S.N S.updF hd (intKind_is _ _ _ _) (by rw [hk.length];exact Nat.le_trans hz (by decide)) λ h' o' F' N' hd'=>?_
 exact hQ _ _ _ h ⟨h',tk+1,m,cm,_,cel,frz,S.set F' N' (q2 o' (.ict lo hd' (hk.put h3))),hv⟩
noncomputable def kSb2 (c:Cx W I r) (value slice:Expr) (mo:MV) (K:KV):KV:=λ mi vals own=>O2 c (subscriptTail value slice) K mo mi vals own
noncomputable abbrev kSb1 (c:Cx W I r) (value slice:Expr) (K:KV):KV:=λ mo vals own=>WE c slice (kSb2 c value slice mo K) vals own
theorem WE.sub {value slice:Expr} {p:Pos} {K:KV} (h:WE c value (kSb1 c value slice K) vals own):WE c (.Subscript value slice p) K vals own:=by
 intro s vs ms Q a hQ
 refine Subscript_ (h s vs ms _ a λ v mv s1 vals1 own1 hk a1=>hk s1 _ _ _ a1 λ iv mi s2 vals2 own2 hk2 a2=>hk2 v iv s2 vs ms Q a2 hQ)
noncomputable def SbOk (slice:Expr):Prop:=∀a k,subscripted slice false (.ref a) k=operate [.ref a,k] (getItem (.ref a) k)
noncomputable abbrev anyName:Expr:=.Name (Str.ofString "_") ⟨0,0,0,0⟩
theorem kSb2.str {value slice:Expr} {mo mv:MV} {kvs:List (Str×MV)} {x:Str} {K:KV} (R:RdS own mo kvs) (e:mGet kvs x=some mv) (h:K mv vals own) (hs:autoParam (SbOk slice) aK):kSb2 c value slice mo K (.str x) vals own:=by
 intro v iv s vs ms Q a hQ
 refine Cx.AtI.el2 a λ g tk m cm ob cel frz S h1 h2 hv=>?_
 refine h1.strE λ t=>?_
 refine R.el S h2 λ d o pvs q1 q2 q3 q4=>?_
 refine E1_2 (q4.getS e) λ u z1 z2=>?_
 exact kba_turn (value':=anyName) (λ zz=>rfl) (kda_item (value:=anyName) (knd:=PySem.strKind PG W.w) S.N q1 q3 (strKind_is _ _ _ _) z1 (hQ _ _ _ _ _ h ⟨g,tk+1,m,cm,ob,cel,frz,S,.cons z2 hv⟩) (hs _ _))
theorem kSb2.int {value slice:Expr} {mo mv:MV} {kvs:List (Int×MV)} {x:Int} {K:KV} (R:RdI own mo kvs) (e:mGet kvs x=some mv) (h:K mv vals own) (hs:autoParam (SbOk slice) aK):kSb2 c value slice mo K (.int x) vals own:=by
 intro v iv s vs ms Q a hQ
 refine Cx.AtI.el2 a λ g tk m cm ob cel frz S h1 h2 hv=>?_
 refine h1.intE λ t=>?_
 refine R.el S h2 λ d o pvs q1 q2 q3 q4=>?_
 refine E1_2 (q4.getS e) λ u z1 z2=>?_
 exact kba_turn (value':=anyName) (λ zz=>rfl) (kda_item (value:=anyName) (knd:=PySem.intKind PG W.w) S.N q1 q3 (intKind_is _ _ _ _) z1 (hQ _ _ _ _ _ h ⟨g,tk+1,m,cm,ob,cel,frz,S,.cons z2 hv⟩) (hs _ _))
theorem kMb.pop {args:List Expr} {K:KV} {a:Addr} {kvs:List (Str×MV)} (hm:(a,OV.dct kvs)∈own) (h:WA c args (kCallB c "dict.pop" [.ptr a] K) vals own):kMb c (Str.ofString "pop") "dict.pop" args K (.ptr a) vals own:=by
 refine ⟨λ v s vs ms Q pl a=>?_,h⟩
 refine Cx.AtI.el1 a λ g tk m1 cm ob cel frz S hi hv=>?_
 refine (RdS.o hm).el S hi λ a o pvs h1 h2 h3 h4=>?_
 intro hQ
 exact popMethodL S.N h1 h3 hQ
end
section
variable {W:Wd} {I:Info} {r:Nat} {c:Cx W I r} {vals vals':Vs} {own own':Ow}
theorem ON.dpop {K:KV} {a:Addr} {kvs:List (Str×MV)} {x:Str} {d:MV} (u:Up own a (.dct kvs) (.dct (mPop kvs x)) own') (hz:kvs.length<=900) (h:K ((mGet kvs x).getD d) vals own'):kCallB c "dict.pop" [.ptr a] K [.str x,d] vals own:=by
 intro ws s vs ms Q e at' hQ
 refine Cx.AtI.elS at' e λ g tk m1 cm ob cel frz S hw hv=>?_
 refine E3_4 (hw.inv3) λ v y z e0_3 hi hk hd=>?_;subst e0_3
 refine hk.strE λ t=>?_
 refine hi.ptrE ?_
 refine S.eUp u λ pre o post S q1 q2=>q1.dctE λ pvs lo hdo hkv=>?_
 refine popL S.F S.N lo S.updF hdo (by rw [hkv.length];exact Nat.le_trans (by assumption) (by decide)) λ h' o' F' N' hd'=>?_
 refine hQ _ _ _ _ _ h ⟨h',tk+1,m1,cm,_,cel,frz,S.set F' N' (q2 o' (.dct lo hd' (hkv.pop x))),.cons ?_ hv⟩
 rcases hkv.get x with ⟨q1,q2⟩ | ⟨v',m',q1,q2,q3⟩
 · rw [q1,q2];exact hd
 · rw [q1,q2];exact q3
theorem kMb.append {args:List Expr} {K:KV} {m:MV} {l:List MV} (R:RdL own m l) (h:WA c args (kCallB c "list.append" [m] K) vals own):kMb c (Str.ofString "append") "list.append" args K m vals own:=by
 refine ⟨λ v s vs ms Q pl a=>?_,h⟩
 refine Cx.AtI.el1 a λ g tk m1 cm ob cel frz S hi hv=>?_
 refine R.el S hi λ a us k h1 h2=>?_
 intro hQ
 exact listMethod_K S.N h1 PySem.F.slot_list_append PySem.F.type_list_append hQ
theorem ON.append {K:KV} {a:Addr} {l:List MV} {m:MV} (u:Up own a (.lst l) (.lst (l++[m])) own') (hz:l.length<=900) (h:K .none vals own'):kCallB c "list.append" [.ptr a] K [m] vals own:=by
 intro ws s vs ms Q e at' hQ
 refine Cx.AtI.elS at' e λ g tk m1 cm ob cel frz S hw hv=>?_
 refine hw.in2 λ v y hi hk=>?_
 refine hi.ptrE ?_
 refine S.eLst u λ pre us j post S hl q2=>?_
 refine pushLast S.F S.N (S.upd _) (by rw [hl.length];exact Nat.le_trans (by assumption) (by decide)) λ h' F' N'=>?_
 exact hQ _ _ _ _ _ h ⟨h',tk,m1,cm,_,cel,frz,S.set F' N' (q2 _ (.lst (hl.append (.cons hk .nil)))),.cons .none hv⟩
noncomputable def kMb0 (c:Cx W I r) (x:Str) (id:String) (K:KV):KV:=λ m vals own =>
 (∀v s vs ms Q pl,c.At s vals own (v::vs) (m::ms)->Q (.builtin id,[v]) s->wpAny (model PG W.w) c.A (getMethod v x pl) Q c.E s)/\kCallB c id [m] K [] vals own
theorem WE.methB0 {o:Expr} {x:Str} {id:String} {p p':Pos} {pl:Env->Sem Bool} {K:KV} (h:WE c o (kMb0 c x id K) vals own)
 (hc':autoParam (∀env,eval (.Call (.Attribute o x p') [] [] p) env=(do
  let ov ← eval o env
  standAt p'.atName
  let (f,first) ← holding [ov] (getMethod ov x (pl env))
  callWith p f first (backTo p (starEach [] env)) [])) aK):WE c (.Call (.Attribute o x p') [] [] p) K vals own:=by
 intro s vs ms Q a hQ
 refine MethodCall_ (pl:=pl c.env) (h s vs ms _ a λ v mv s' vals' own' hk a'=>?_) (hc' _)
 refine hk.1 v s' vs ms _ _ a' ?_
 dsimp only
 refine callWith_builtin rfl (PyProof.Rows.evalArgs_none ?_)
 exact hk.2 [v] s' vs ms Q rfl (by trivial) hQ
theorem kMb0.pop {K:KV} {m:MV} {l:List MV} (R:RdL own m l) (h:kCallB c "list.pop" [m] K [] vals own):kMb0 c (Str.ofString "pop") "list.pop" K m vals own:=by
 refine ⟨λ v s vs ms Q pl a=>?_,h⟩
 refine Cx.AtI.el1 a λ g tk m1 cm ob cel frz S hi hv=>?_
 refine R.el S hi λ a us k h1 h2=>?_
 intro hQ
 exact listMethod_K S.N h1 PySem.F.slot_list_pop PySem.F.type_list_pop hQ
theorem All2.snoc {w:World} {N:Lg} {vs:List Value} {ms:List MV} {m:MV} (h:MAll w N vs (ms++[m])):∃vs' v,vs=vs'++[v]/\MAll w N vs' ms/\MIn w N v m:=by
 induction ms generalizing vs with
 | nil=>refine All2.in1 h λ v p=>?_;exact ⟨[],v,rfl,.nil,p⟩
 | cons x r ih =>
  refine All2.cn h λ v0 vs hv hr=>?_
  exact E2_3 (ih hr) λ vs' v e h1 h2=>⟨v0::vs',v,congrArg _ e,.cons hv h1,h2⟩
theorem ON.pop {K:KV} {a:Addr} {l:List MV} {m:MV} (u:Up own a (.lst (l++[m])) (.lst l) own') (hz:l.length<=900) (h:K m vals own'):kCallB c "list.pop" [.ptr a] K [] vals own:=by
 intro ws s vs ms Q e at' hQ
 refine Cx.AtI.elS at' e λ g tk m1 cm ob cel frz S hw hv=>?_
 refine hw.in1 λ v hi=>?_
 refine hi.ptrE ?_
 refine S.eLst u λ pre us j post S hl q2=>?_
 revert S
 refine E2_3 (hl.snoc) λ us y e5_2 h1 h2=>?_;rw [e5_2];intro S
 refine popLast S.F S.N (S.upd _) (by rw [h1.length];exact Nat.le_trans (by assumption) (by decide)) λ h' F' N'=>?_
 exact hQ _ _ _ _ _ h ⟨h',tk,m1,cm,_,cel,frz,S.set F' N' (q2 _ (.lst h1)),.cons h2 hv⟩
theorem O1b.lst {K:KB} {m:MV} {l:List MV} {b:Bool} (R:RdL own m l) (hb:(!l.isEmpty)=b) (hz:l.length<=900) (h:K b vals own):O1b c truthy K m vals own:=by
 intro v s vs ms Q a hQ
 refine Cx.AtI.el1 a λ g tk m1 cm ob cel frz S hi hv=>?_
 refine R.el S hi λ a us k h1 h2=>?_
 have hl:=h2.length
 refine truthyL S.N h1 (by lia) (b:=b) ?_ (hQ _ _ _ _ h ⟨g,tk+1+1,m1,cm,ob,cel,frz,S,hv⟩)
 rw [←hb];cases us <;> cases l <;> first | rfl | f_shut hl
theorem kC2.inI {m:MV} {kvs:List (Int×MV)} {n:Int} {K:KV} {b:Bool} (R:RdI own m kvs) (e:(mGet kvs n).isSome=b) (h:K (.bool b) vals own):kC2 c .In (.int n) K m vals own:=by
 intro v iv s vs ms Q a hQ
 refine Cx.AtI.el2 a λ g tk m1 cm ob cel frz S h1 h2 hv=>?_
 refine h2.intE λ t=>?_
 refine R.el S h1 λ d o pvs q1 q2 q3 q4=>?_
 refine kda_in (knd:=PySem.intKind PG W.w) S.N q1 q3 q2 (intKind_is _ _ _ _) b ?_ (hQ _ _ _ _ _ h ⟨g,tk+1,m1,cm,ob,cel,frz,S,.cons (.bool _) hv⟩)
 rw [←e]
 rcases q4.get n with ⟨z1,z2⟩ | ⟨v',m',z1,z2,z3⟩
 · rw [z1,z2];rfl
 · rw [z1,z2];rfl
theorem kC2.notinI {m:MV} {kvs:List (Int×MV)} {n:Int} {K:KV} {b:Bool} (R:RdI own m kvs) (e:(!(mGet kvs n).isSome)=b) (h:K (.bool b) vals own):kC2 c .NotIn (.int n) K m vals own:=by
 intro v iv s vs ms Q a hQ
 refine Cx.AtI.el2 a λ g tk m1 cm ob cel frz S h1 h2 hv=>?_
 refine h2.intE λ t=>?_
 refine R.el S h1 λ d o pvs q1 q2 q3 q4=>?_
 refine notInD (knd:=PySem.intKind PG W.w) S.N q1 q3 q2 (intKind_is _ _ _ _) (!b) ?_ (by rw [Bool.not_not];exact hQ _ _ _ _ _ h ⟨g,tk+1,m1,cm,ob,cel,frz,S,.cons (.bool _) hv⟩)
 rw [←e,Bool.not_not]
 rcases q4.get n with ⟨z1,z2⟩ | ⟨v',m',z1,z2,z3⟩
 · rw [z1,z2];rfl
 · rw [z1,z2];rfl
theorem kC2.inS {m:MV} {kvs:List (Str×MV)} {n:Str} {K:KV} {b:Bool} (R:RdS own m kvs) (e:(mGet kvs n).isSome=b) (h:K (.bool b) vals own):kC2 c .In (.str n) K m vals own:=by
 intro v iv s vs ms Q a hQ
 refine Cx.AtI.el2 a λ g tk m1 cm ob cel frz S h1 h2 hv=>?_
 refine h2.strE λ t=>?_
 refine R.el S h1 λ d o pvs q1 q2 q3 q4=>?_
 refine kda_in (knd:=PySem.strKind PG W.w) S.N q1 q3 q2 (strKind_is _ _ _ _) b ?_ (hQ _ _ _ _ _ h ⟨g,tk+1,m1,cm,ob,cel,frz,S,.cons (.bool _) hv⟩)
 rw [←e]
 rcases q4.get n with ⟨z1,z2⟩ | ⟨v',m',z1,z2,z3⟩
 · rw [z1,z2];rfl
 · rw [z1,z2];rfl
theorem kC2.notinS {m:MV} {kvs:List (Str×MV)} {n:Str} {K:KV} {b:Bool} (R:RdS own m kvs) (e:(!(mGet kvs n).isSome)=b) (h:K (.bool b) vals own):kC2 c .NotIn (.str n) K m vals own:=by
 intro v iv s vs ms Q a hQ
 refine Cx.AtI.el2 a λ g tk m1 cm ob cel frz S h1 h2 hv=>?_
 refine h2.strE λ t=>?_
 refine R.el S h1 λ d o pvs q1 q2 q3 q4=>?_
 refine notInD (knd:=PySem.strKind PG W.w) S.N q1 q3 q2 (strKind_is _ _ _ _) (!b) ?_ (by rw [Bool.not_not];exact hQ _ _ _ _ _ h ⟨g,tk+1,m1,cm,ob,cel,frz,S,.cons (.bool _) hv⟩)
 rw [←e,Bool.not_not]
 rcases q4.get n with ⟨z1,z2⟩ | ⟨v',m',z1,z2,z3⟩
 · rw [z1,z2];rfl
 · rw [z1,z2];rfl
noncomputable def kMf (c:Cx W I r) (x:Str) (f:Addr) (args:List Expr) (K:KV):KV:=λ m vals own =>
 (∀v s vs ms Q pl,c.At s vals own (v::vs) (m::ms)->Q (.ref f,[v]) s->wpAny (model PG W.w) c.A (getMethod v x pl) Q c.E s)/\WA c args (kCall c (.ref f) [m] K) vals own
theorem WE.methF {o:Expr} {x:Str} {f:Addr} {p p':Pos} {e:Expr} {args:List Expr} {pl:Env->Sem Bool} {K:KV} (h:WE c o (kMf c x f (e::args) K) vals own) (hk:keepIn (KH W) (.ref f)=true)
 (he:autoParam (∀env,starEach (e::args) env=(false,eval e env)::starEach args env) aK) (hp:autoParam (∀env,(backTo p (starEach args env)).any (λ zz=>zz.1)=false) aK)
 (hc':autoParam (∀env,eval (.Call (.Attribute o x p') (e::args) [] p) env=(do
  let ov ← eval o env
  standAt p'.atName
  let (f,first) ← holding [ov] (getMethod ov x (pl env))
  callWith p f first (backTo p (starEach (e::args) env)) [])) aK):WE c (.Call (.Attribute o x p') (e::args) [] p) K vals own:=by
 intro s vs ms Q a hQ
 refine MethodCall_ (pl:=pl c.env) (h s vs ms _ a λ v mv s' vals' own' hk' a'=>?_) (hc' _)
 refine hk'.1 v s' vs ms _ _ a' ?_
 dsimp only
 exact callWith_K a'.k.X hk (hk'.2 p s' _ _ _ a' λ ws l s2 vals2 own2 hk2 e2 a2=>⟨a2.in,hk2 ([v]++ws) s2 vs ms Q (by simp [e2]) (a2.rot e2) hQ⟩) (he _) (hp _)
noncomputable def kMf0 (c:Cx W I r) (x:Str) (f:Addr) (K:KV):KV:=λ m vals own =>
 (∀v s vs ms Q pl,c.At s vals own (v::vs) (m::ms)->Q (.ref f,[v]) s->wpAny (model PG W.w) c.A (getMethod v x pl) Q c.E s)/\kCall c (.ref f) [m] K [] vals own
theorem WE.methF0 {o:Expr} {x:Str} {f:Addr} {p p':Pos} {pl:Env->Sem Bool} {K:KV} (h:WE c o (kMf0 c x f K) vals own) (hk:keepIn (KH W) (.ref f)=true)
 (hc':autoParam (∀env,eval (.Call (.Attribute o x p') [] [] p) env=(do
  let ov ← eval o env
  standAt p'.atName
  let (f,first) ← holding [ov] (getMethod ov x (pl env))
  callWith p f first (backTo p (starEach [] env)) [])) aK):WE c (.Call (.Attribute o x p') [] [] p) K vals own:=by
 intro s vs ms Q a hQ
 refine MethodCall_ (pl:=pl c.env) (h s vs ms _ a λ v mv s' vals' own' hk' a'=>?_) (hc' _)
 refine hk'.1 v s' vs ms _ _ a' ?_
 dsimp only
 refine callWith_K0 a'.in hk ?_
 exact hk'.2 [v] s' vs ms Q rfl (by trivial) hQ
noncomputable def MtOk (W:Wd) (C:Addr) (x:Str) (f:Addr):Prop:=plainGet (KH W) C x=true/\findIn (KH W) (.ref C) x=some (some (.ref f))/\isFn (KH W) (.ref f)=true
theorem AllF.nofd {w:World} {N:Lg} {es:List DictEntry} {fs:List (String×MV)} {x:Str} (h:MFs w N es fs) (f:(fs.all λ p => !(Str.ofString p.1 == x))=true):getL x es=some none:=by
 ctx_has w N es fs x
 have key:∀ {es:List DictEntry} {fs:List (String×MV)},MFs w N es fs->(fs.all λ p => !(Str.ofString p.1 == x))=true->es.find? (·.key.isStr x)=none/\(es.any (λ zz=>zz.refKey))=false:=by
  intro es fs h
  induction fs generalizing es with
  | nil=>intro zz;cases h;exact ⟨rfl,rfl⟩
  | cons p r ih =>
   intro f
   cases h with
   | @cons y k v m _ _ hv hr =>
   rw [List.all_cons,Bool.and_eq_true] at f
   obtain ⟨h1,h2⟩:=ih hr f.2
   have f1:(Str.ofString y == x)=false:=by simpa using f.1
   refine ⟨?_,?_⟩
   · rw [List.find?_cons_of_neg];exact h1
     · show ¬ (Str.ofString _ == x)=true
       rw [f1];simp
   · rw [List.any_cons,h2];rfl
 obtain ⟨h1,h2⟩:=key h f
 unfold getL
 rw [h1]
 dsimp only
 rw [h2];rfl
theorem kMf.inst {C:Nat} {fs:List (String×MV)} {x:Str} {f:Addr} {args:List Expr} {K:KV} (ok:MtOk W C x f) (h:WA c args (kCall c (.ref f) [.inst C fs] K) vals own) (nf:autoParam ((fs.all λ p => !(Str.ofString p.1 == x))=true) aQ):kMf c x f args K (.inst C fs) vals own:=by
 refine ⟨λ v s vs ms Q pl a=>?_,h⟩
 refine Cx.AtI.el1 a λ g tk m1 cm ob cel frz S hi hv=>?_
 exact hi.instE λ a dx es k h1 h2 h3 hQ=>method_inst S.F S.k.X (InstAt.of_news S.pure h1 h2) ok.1 ok.2.1 ok.2.2 (h3.nofd nf) hQ
theorem kMf0.inst {C:Nat} {fs:List (String×MV)} {x:Str} {f:Addr} {K:KV} (ok:MtOk W C x f) (h:kCall c (.ref f) [.inst C fs] K [] vals own) (nf:autoParam ((fs.all λ p => !(Str.ofString p.1 == x))=true) aQ):kMf0 c x f K (.inst C fs) vals own:=by
 refine ⟨λ v s vs ms Q pl a=>?_,h⟩
 refine Cx.AtI.el1 a λ g tk m1 cm ob cel frz S hi hv=>?_
 exact hi.instE λ a dx es k h1 h2 h3 hQ=>method_inst S.F S.k.X (InstAt.of_news S.pure h1 h2) ok.1 ok.2.1 ok.2.2 (h3.nofd nf) hQ
end
section
variable {W:Wd} {I:Info} {r:Nat} {c:Cx W I r} {vals vals':Vs} {own own':Ow}
theorem ON.getI2s {K:KV} {m d mv:MV} {kvs:List (Int×MV)} {x:Int} (R:RdI own m kvs) (e:mGet kvs x=some mv) (h:K mv vals own):kCallB c "dict.get" [m] K [.int x,d] vals own:=ON.getI2 R (by rw [e];exact h)
theorem ON.get1s {K:KV} {m mv:MV} {kvs:List (Str×MV)} {x:Str} (R:RdS own m kvs) (e:(mGet kvs x).getD .none=mv) (h:K mv vals own):kCallB c "dict.get" [m] K [.str x] vals own:=ON.get1 R (by rw [e];exact h)
noncomputable def kNeg (K:KV):KV:=λ m vals own=>∃i,m = .int i/\K (.int (-i)) vals own
theorem WE.neg {e:Expr} {p:Pos} {K:KV} (h:WE c e (kNeg K) vals own):WE c (.UnaryOp .USub e p) K vals own:=by
 intro s vs ms Q a hQ
 refine UnaryOp_ (h s vs ms _ a λ v mv s' vals' own' hk a'=>?_)
 obtain ⟨i,rfl,hk⟩:=hk
 obtain ⟨N,hi⟩:=a'.inv
 refine hi.intE λ t=>?_
 exact neg_int (hQ _ _ _ _ _ hk (a'.drop.tok.push λ zz=>.int _ _))
theorem kNeg.mk {i:Int} {K:KV} (h:K (.int (-i)) vals own):kNeg K (.int i) vals own:=⟨i,rfl,h⟩
end
section
variable {W:Wd} {I:Info} {r:Nat} {c:Cx W I r} {vals vals':Vs} {own own':Ow}
theorem WX.unp {elts:List Expr} {k:Nat} {tp:Pos} {xs:List Str} {l:List MV} {v:Value} {s:Shared} {vs:List Value} {ms:List MV} {Q:Unit->Shared->Prop} (hcp:I.cp=none) (hhb:I.hb=false)
 (ha:∀env,∃ps:List Pos,ps.length=xs.length/\assignEach elts env=(xs.zip ps).map λ q=>(false,assign (.Name q.1 q.2) env)) (el:xs.length=l.length) (n:NtL I.names vals (xs.zip l) vals')
 (a:c.At s vals own (v::vs) (.tup l::ms)) (h:∀s',c.At s' vals' own vs ms->Q () s'):wpAny (model PG W.w) c.A (assign (.Tuple elts k tp) c.env v) Q c.E s:=by
 revert c;ctx_has W I r vals vals' own elts k tp xs l v s vs ms Q
 ctx_has c
 refine Cx.AtI.el1 a λ g tk m cm ob cel frz S hi hv=>?_
 refine tup_el hi λ t us k' h1 h2=>?_
 have hA:c.A.handled=none:=S.k.hhb hhb
 refine E1_2 (ha c.env) λ ps hps hae=>?_
 refine unpackN_ (m:=m) (L:=c.L) (h₀:=c.h₀) (news:=c.all ob cel frz) (items:=us.toArray) S.F S.N ⟨_,(S.pure _ h1).1,rfl,_,rfl⟩ hA (by rw [hae];simp [h2.length,hps,el]) (by rw [hae,List.findIdx?_map];simp) λ h' F' N'=>?_
 have key:∀ {xs:List Str} {ps:List Pos} {l:List MV} {ws:List Value} {u u':Vs} {s:Shared},ps.length=xs.length->xs.length=l.length->ws.length=l.length->NtL I.names u (xs.zip l) u'->c.At s u own (ws++vs) (l++ms) ->
  (∀s',c.At s' u' own vs ms->Q () s')->wpAny (model PG W.w) c.A (assignInOrder ((xs.zip ps).map λ q=>assign (.Name q.1 q.2) c.env) ws) Q c.E s:=by
  intro xs
  induction xs with
  | nil =>
   intro ps l ws u u' s e0 e1 e2 t a h
   cases l with
   | nil =>
    cases ws with
    | nil=>f_shut t;exact assignInOrder_nil (h _ a)
    | cons _ _=>f_shut e2
   | cons _ _=>f_shut e1
  | cons x xs ih =>
   intro ps l ws u u' s e0 e1 e2 t a h
   cases ps with
   | nil=>f_shut e0
   | cons p ps =>
   cases l with
   | nil=>f_shut e1
   | cons m l =>
    cases ws with
    | nil=>f_shut e2
    | cons w ws =>
     cases t with
     | cons t1 t2=>exact assignInOrder_cons (assign_Name (WX.store hcp t1 a λ s' a'=>ih (by simpa using e0) (by simpa using e1) (by simpa using e2) t2 a' h))
 rw [hae,map_map]
 exact key hps el h2.length n ⟨h',tk,m,cm,ob,cel,frz,S.s0.st F' N',h2.append hv⟩ h
theorem WS.unp {elts:List Expr} {k:Nat} {tp p:Pos} {value:Expr} {rest:List Stmt} {K:KS} (xs:List Str) (h:WE c value (kUnp c xs false rest K) vals own) (ha:∀env,∃ps:List Pos,ps.length=xs.length/\assignEach elts env=(xs.zip ps).map λ q=>(false,assign (.Name q.1 q.2) env))
 (hs:autoParam (∀env,swapsWithSole [.Tuple elts k tp] value p.line env=pure false) aK) (hw:autoParam (∀L,swappedStores [.Tuple elts k tp] value (fEnv I L)=pure none) aK) (hcp:autoParam (I.cp=none) aK) (hhb:autoParam (I.hb=false) aK):WS c (.Assign [.Tuple elts k tp] value p::rest) K vals own:=by
 intro s Q a hQ
 have he:c.env=fEnv I c.L:=by unfold Cx.env cEnv;rw [hcp]
 refine wpAny_execs_cons (Assign_Tuple (h s [] [] _ a λ v mv s' vals' own' hk a'=>?_) (hs _) (by rw [he];exact hw _))
 refine E2_4 hk λ l vals2 e8_2 el n hw'=>?_;clear hk;subst e8_2
 exact WX.unp hcp hhb ha el n a' λ s2 a2=>hw' s2 Q a2 hQ
theorem WS.unp2 {x y:Str} {p1 p2:Pos} {k:Nat} {tp p:Pos} {value:Expr} {rest:List Stmt} {K:KS} (h:WE c value (kUnp c [x,y] false rest K) vals own)
 (hs:autoParam (∀env,swapsWithSole [.Tuple [.Name x p1,.Name y p2] k tp] value p.line env=pure false) aK) (hw:autoParam (∀L,swappedStores [.Tuple [.Name x p1,.Name y p2] k tp] value (fEnv I L)=pure none) aK) (hcp:autoParam (I.cp=none) aK) (hhb:autoParam (I.hb=false) aK):WS c (.Assign [.Tuple [.Name x p1,.Name y p2] k tp] value p::rest) K vals own :=
 WS.unp [x,y] h (λ env=>⟨[p1,p2],rfl,rfl⟩) hs hw hcp hhb
theorem WS.unp3 {x y z:Str} {p1 p2 p3:Pos} {k:Nat} {tp p:Pos} {value:Expr} {rest:List Stmt} {K:KS} (h:WE c value (kUnp c [x,y,z] false rest K) vals own)
 (hs:autoParam (∀env,swapsWithSole [.Tuple [.Name x p1,.Name y p2,.Name z p3] k tp] value p.line env=pure false) aK) (hw:autoParam (∀L,swappedStores [.Tuple [.Name x p1,.Name y p2,.Name z p3] k tp] value (fEnv I L)=pure none) aK) (hcp:autoParam (I.cp=none) aK) (hhb:autoParam (I.hb=false) aK):WS c (.Assign [.Tuple [.Name x p1,.Name y p2,.Name z p3] k tp] value p::rest) K vals own :=
 WS.unp [x,y,z] h (λ env=>⟨[p1,p2,p3],rfl,rfl⟩) hs hw hcp hhb
theorem kUnp.two {x y:Str} {a b:MV} {rest:List Stmt} {K:KS} {bx b2:Bool} {u1 u2:Vs} (n1:Nt I.names vals x bx a u1) (n2:Nt I.names u1 y b2 b u2) (h:WS c rest K u2 own):kUnp c [x,y] false rest K (.tup [a,b]) vals own:=kUnp.f rfl (.cons n1 (.cons n2 .nil)) h
theorem kUnp.three {x y z:Str} {a b d:MV} {rest:List Stmt} {K:KS} {bx b2 b3:Bool} {u1 u2 u3:Vs} (n1:Nt I.names vals x bx a u1) (n2:Nt I.names u1 y b2 b u2) (n3:Nt I.names u2 z b3 d u3) (h:WS c rest K u3 own):kUnp c [x,y,z] false rest K (.tup [a,b,d]) vals own:=kUnp.f rfl (.cons n1 (.cons n2 (.cons n3 .nil))) h
end
theorem mt_pair {W:Wd}:MtOk W 254 (Str.ofString "pair") 251:=⟨by kernel_rfl,by kernel_rfl,by kernel_rfl⟩
theorem mt_fetch {W:Wd}:MtOk W 368 (Str.ofString "fetch") 304:=⟨by kernel_rfl,by kernel_rfl,by kernel_rfl⟩
theorem mt_get {W:Wd}:MtOk W 368 (Str.ofString "get") 311:=⟨by kernel_rfl,by kernel_rfl,by kernel_rfl⟩
theorem mt_root {W:Wd}:MtOk W 368 (Str.ofString "root") 360:=⟨by kernel_rfl,by kernel_rfl,by kernel_rfl⟩
theorem mt_add {W:Wd}:MtOk W 368 (Str.ofString "add") 339:=⟨by kernel_rfl,by kernel_rfl,by kernel_rfl⟩
theorem mt_put {W:Wd}:MtOk W 368 (Str.ofString "put") 332:=⟨by kernel_rfl,by kernel_rfl,by kernel_rfl⟩
theorem mt_numbers {W:Wd}:MtOk W 368 (Str.ofString "numbers") 353:=⟨by kernel_rfl,by kernel_rfl,by kernel_rfl⟩
theorem mt_told {W:Wd}:MtOk W 368 (Str.ofString "told") 365:=⟨by kernel_rfl,by kernel_rfl,by kernel_rfl⟩
noncomputable abbrev Kvs:=List (Str×MV)
noncomputable abbrev mShelf (T R:Addr):MV:=.inst 368 [("table",.ptr T),("trailer",.ptr R)]
noncomputable abbrev tabM (tab:List (Int×Kvs)):List (Int×MV):=tab.map λ p=>(p.1,MV.tup [.int 0,.dct p.2])
noncomputable abbrev trlM (root:Option Int):Kvs:=match root with | some n=>[(Str.ofString "Root",mRef n)] | none=>[]
noncomputable abbrev tGet (tab:List (Int×Kvs)) (n:Int):Option Kvs:=(tab.find? λ p=>p.1=n).map (λ zz=>zz.2)
structure Shf (own:Ow) (T R:Addr) (tab:List (Int×Kvs)) (root:Option Int):Prop where
 t:(T,OV.ict (tabM tab))∈own
 r:(R,OV.dct (trlM root))∈own
inductive NoRef:MV->Prop
 | none:NoRef .none
 | int (i:Int):NoRef (.int i)
 | lst (l:List MV):NoRef (.lst l)
 | dct (l:List (Str×MV)):NoRef (.dct l)
 | name (s:Str):NoRef (mName s)
theorem NoRef.kit {mv:MV} (h:NoRef mv) (w:World):kitOne (HP w.params) (mType mv) (.ref 254)=some false:=by cases h <;> kernel_rfl
theorem NoRef.cls {mv:MV} (h:NoRef mv) (w:World):∀C fs,mv = .inst C fs->OwnCls w C:=by
 intro C fs e;cases h <;> f_shut e;exact oc_name w
theorem NoRef.ptr {mv:MV} (h:NoRef mv):∀a,mv≠.ptr a:=by intro a e;cases h <;> f_shut e
theorem ref_cls (w:World) {n:Int}:∀C fs,mRef n = .inst C fs->OwnCls w C:=by intro C fs e;f_shut e;exact oc_ref w
theorem ref_ptr {n:Int}:∀a,mRef n≠.ptr a:=by intro a e;f_shut e
theorem ref_kit {n:Int} (w:World):kitOne (HP w.params) (mType (mRef n)) (.ref 254)=some true:=by kernel_rfl
theorem cls_range {W:Wd}:ClsIs W (Str.ofString "range") (.type "range"):=.inr ⟨by kernel_rfl,by kernel_rfl,by decide⟩
theorem hops {W:Wd}:∃t,ClsIs W (Str.ofString "MOST_HOPS") (.int 30 t):=⟨_,.inl rfl⟩
theorem tab_get {tab:List (Int×Kvs)} {n:Int} {kvs:Kvs} (h:tGet tab n=some kvs):mGet (tabM tab) n=some (.tup [.int 0,.dct kvs]):=by
 rw [mGet_map n (λ p=>MV.tup [.int 0,.dct p]) tab,show (tab.find? λ p=>p.1=n).map (λ zz=>zz.2)=some kvs from h];rfl
noncomputable def mGetD (kvs:Kvs) (x:Str):MV:=(mGet kvs x).getD .none
noncomputable abbrev mRefs (ns:List Int):MV:=.lst (ns.map mRef)
theorem nm_cls (w:World) {s:Str}:∀C fs,mName s = .inst C fs->OwnCls w C:=by intro C fs e;f_shut e;exact oc_name w
theorem name_ptr {s:Str}:∀a,mName s≠.ptr a:=by intro a e;f_shut e
theorem name_kit {s:Str} (w:World):kitOne (HP w.params) (mType (mName s)) (.ref 183)=some true:=by kernel_rfl
section
variable {W:Wd} {I:Info} {r:Nat} {c:Cx W I r} {vals vals':Vs} {own own':Ow}
theorem All2.strs {w:World} {N:Lg} {l:List Str}:∀ {vs:List Value},MAll w N vs (l.map MV.str)->StrsAre vs l:=by
 induction l with
 | nil=>intro vs h;cases h;exact .nil
 | cons x r ih =>
  intro vs h
  cases h with
  | cons h1 h2=>refine h1.strE λ t=>?_;exact .cons _ _ (ih h2)
theorem kC2.inTs {x:Str} {l:List Str} {K:KV} {b:Bool} (e:(l.any (· == x))=b) (h:K (.bool b) vals own):kC2 c .In (.str x) K (.tup (l.map MV.str)) vals own:=by
 intro v iv s vs ms Q a hQ
 refine Cx.AtI.el2 a λ g tk m1 cm ob cel frz S h1 h2 hv=>?_
 refine h2.strE λ t=>?_
 refine tup_el h1 λ d us k q1 q2=>?_
 refine in_tuple_strs (items:=us.toArray) ⟨_,(S.pure _ q1).1,rfl,_,rfl⟩ (by simpa using q2.strs) (by rw [e];exact hQ _ _ _ _ _ h ⟨g,tk,m1,cm,ob,cel,frz,S,.cons (.bool _) hv⟩)
theorem kC2.eqS {a b:Str} {K:KV} {d:Bool} (e:(a == b)=d) (h:K (.bool d) vals own):kC2 c .Eq (.str a) K (.str b) vals own:=O2.mk h λ N v1 v2 A E s Q h1 h2 q=>by
 refine h1.strE λ t=>?_;refine h2.strE λ u=>?_;exact eq_str (by rw [e];exact q _ s.toks λ zz=>.bool _)
end
section
variable {W:Wd} {I:Info} {r:Nat} {c:Cx W I r} {vals vals':Vs} {own own':Ow}
noncomputable def SaOk (W:Wd) (C:Addr) (x:Str):Prop:=findIn (KH W) (.ref C) "__setattr__"=some (some (.builtin "object.__setattr__"))/\plainOver (KH W) C=true/\takerIn (KH W) C x=some none/\hasDictIn (KH W) C=true
noncomputable def kSa (c:Cx W I r) (x:Str) (K:Vs->Ow->Prop):MV->KV:=λ mv mo vals own=>∀v ov s vs ms (Q:Unit->Shared->Prop),c.At s vals own (ov::v::vs) (mo::mv::ms)->(∀s' vals' own',K vals' own'->c.At s' vals' own' vs ms->Q () s')->wpAny (model PG W.w) c.A (setAttr ov x v) Q c.E s
noncomputable abbrev kSa1 (c:Cx W I r) (o:Expr) (x:Str) (K:Vs->Ow->Prop):KV:=λ mv vals own=>WE c o (kSa c x K mv) vals own
theorem WS.seta {o value:Expr} {x:Str} {p p':Pos} {rest:List Stmt} {K:KS} (h:WE c value (kSa1 c o x (WS c rest K)) vals own) (hs:autoParam (∀env,swapsWith value (some (.Attribute o x p')) p.line env=pure false) aK):WS c (.Assign [.Attribute o x p'] value p::rest) K vals own:=by
 intro s Q a hQ
 refine wpAny_execs_cons (plainObj_wpAny_Assign_Attribute (h s [] [] _ a λ v mv s1 vals1 own1 hk a1=>?_) (hs _))
 refine hk s1 _ _ _ a1 λ ov mo s2 vals2 own2 hk2 a2=>?_
 exact hk2 v ov s2 [] [] _ a2 λ s' vals' own' hk4 a4=>hk4 s' Q a4 hQ
set_option tactic.hygienic true in
theorem putL_new {x:Str} {hsh:Int} {key v:Value}:∀ {es:List DictEntry},getL x es=some none->putL x hsh key v es=es++[⟨hsh,key,v⟩]/\∀n,putN x es n=n+1
 | [],_=>⟨rfl,λ _=>rfl⟩
 | e::r,h=>by
  unfold getL at h
  split at h
  · f_shut h
  · rename_i hn
    split at h
    · f_shut h
    · rename_i hr
      rw [List.find?_cons] at hn
      split at hn
      · f_shut hn
      · rename_i he
        have hr':¬ (r.any (·.refKey))=true:=λ q=>hr (by rw [List.any_cons,q];simp)
        obtain ⟨h1,h2⟩:=putL_new (x:=x) (hsh:=hsh) (key:=key) (v:=v) (es:=r) (by unfold getL;rw [hn];dsimp only;rw [if_neg hr'])
        refine ⟨?_,λ n=>?_⟩
        · unfold putL
          rw [he,h1];rfl
        · have:=h2 n
          unfold putN at this ⊢
          rw [List.any_cons,he,Bool.false_or]
          exact this
theorem AllF.snoc {w:World} {N:Lg} {es:List DictEntry} {fs:List (String×MV)} {x:String} {k:Tok} {v:Value} {m:MV} (h:MFs w N es fs) (hv:MIn w N v m):MFs w N (es++[ent w x k v]) (fs++[(x,m)]):=by
 induction h with
 | nil=>exact .cons hv .nil
 | cons h1 zz ih=>exact .cons h1 ih
theorem AllF.len {w:World} {N:Lg} {es:List DictEntry} {fs:List (String×MV)} (h:MFs w N es fs):es.length=fs.length:=by
 induction h with
 | nil=>rfl
 | cons _ _ ih=>exact congrArg Nat.succ ih
theorem kSa.new {K:Vs->Ow->Prop} {mv:MV} {a dx:Addr} {C:Nat} {x:String} {fs:List (String×MV)} (ok:SaOk W C (Str.ofString x)) (hm:(a,OV.obj C dx)∈own) (u:Up own dx (.fld fs) (.fld (fs++[(x,mv)])) own') (h:K vals own') (hz:autoParam (fs.length<=900) aB)
 (nf:autoParam ((fs.all λ p => !(Str.ofString p.1 == Str.ofString x))=true) aQ):kSa c (Str.ofString x) K mv (.ptr a) vals own:=by
 intro v ov s vs ms Q at' hQ
 refine Cx.AtI.el2 at' λ g tk m cm ob cel frz S h1 h2 hv=>?_
 refine h1.ptrE ?_
 refine E1_2 (S.ow.at hm) λ oa hoa hoi=>?_
 revert hoa;refine hoi.objE λ hoa=>?_
 refine E3_3 (S.ow.up u) λ pre o post e1_3 q1 q2=>?_
 rw [e1_3] at S hoa;clear e1_3
 revert S hoa
 refine q1.fldE λ es k hfs hoa S=>?_
 have hg:=hfs.nofd nf
 obtain ⟨p1,p2⟩:=putL_new (x:=Str.ofString x) (hsh:=PyData.keyHash W.w.params (Str.ofString x)) (key:=.str (Str.ofString x) (tk+1)) (v:=v) hg
 refine E0_4 ok λ o1 o2 o3 o4=>?_;clear ok
 refine set_dict (es:=es) (n:=k) (es':=es++[ent W.w x (tk+1) v]) (n':=k+1) S.F S.k.X S.N (InstAt.of_news S.N (mem_append_left _ hoa) (by simp)) rfl o1 o2 o3 o4 (by rw [hg];rfl) (by exact Prod.ext p1 (p2 k)) (S.upd _) (by rw [length_append,hfs.len];simp;exact Nat.le_trans (by assumption) (by decide)) λ h' F' N'=>?_
 exact hQ _ _ _ h ⟨h',tk+2,m,cm,_,cel,frz,S.set F' N' (q2 _ (.fld (hfs.snoc h2))),hv⟩
theorem kCall.newX {hb:Bool} {C fI:Addr} {r':Nat} {args:List MV} {P:List (String×MV)->Ow->Prop} {K:KV} (Ci:∀x dx,Tl W hb fI r' (.ptr x::args) ((x,.obj C dx)::(dx,.fld [])::own) λ m o=>m = .none/\∃fs o1 o2,Dl o x (.obj C dx) o1/\Dl o1 dx (.fld fs) o2/\P fs o2) (h:∀fs o2,P fs o2->K (.inst C fs) vals o2)
 (hm:makesIn (KH W) C=true) (hi:findIn (KH W) (.ref C) "__init__"=some (some (.ref fI))) (hf:isFn (KH W) (.ref fI)=true) (hr:autoParam (r'+1<=r) aD) (hhb:autoParam (hb=true\/I.hb=false) aI):kCall c (.ref C) [] K args vals own:=by
 revert c;ctx_has W I r vals own hb C fI r' args P K
 ctx_has c
 intro ws s vs ms Q e a hQ
 ctx_has ws s vs ms Q
 refine Cx.AtI.elS a e λ g tk m cm ob cel frz S hw hv=>?_
 ctx_has g tk m cm ob cel frz
 have hd:=S.k.hd
 have hu:=S.k.hu
 refine call_cls S.F S.k.X S.N hm hi hf λ x dx h' F' N' lt l2=>?_
 ctx_has x dx h'
 have hA:c.A.under (.builtin "type.__call__" ⟨.ref C::ws,[]⟩)={handled:=c.hh,depth:=c.dp+1,frames:=some (fEnv I c.L::c.outer),guards:=c.gd,units:=c.un+1}:=by
  unfold Around.under Cx.A
  cases c.gd <;> rfl
 rw [hA]
 have off:∀p∈c.all ob cel frz,p.1≠dx/\p.1≠x:=λ p hp=>⟨Nat.ne_of_lt (lt p hp),Nat.ne_of_lt (Nat.lt_trans (lt p hp) l2)⟩
 have S1:=S.new (ov:=.fld []) F' (λ p hp=>N' p (List.mem_cons_of_mem _ hp)) (λ p hp=>(off p hp).1) (.fld (k:=0) .nil)
 have S2:=S1.new (a:=x) (o:=instObj C dx) (ov:=.obj C dx) F' N' (λ p hp=>by
  rcases mem_cons.mp hp with rfl | hp
  · exact Nat.ne_of_lt l2
  · exact (off p hp).2) .obj
 have nd:=S2.nd
 rw [map_append,nodup_append] at nd
 refine Ci x dx frz c.hh (c.dp+1) (c.un+1) c.gd I.cn I.cs I.a I.ccd (cellsFrom (c.L+1) I.cs.names []) c.outer c.A₀ c.base c.h₀ c.L m {c.s with heap:=h',toks:=tk} _ ((x,instObj C dx)::(dx,dictOf [] 0)::ob) (cel++c.old) (.ref x::ws) (λ q=>?_) (S.hi.mono λ p hp=>?_) S.k.B F' S.k.X (by have:=S2.N;simp_all) nd.1 (λ p hp q hq=>?_) S2.af S2.ow (.cons (.ptr _) hw) S.k.T S.k.ok.hk (by lia) (by lia) ?_
 · rcases hhb with x | x
   · rw [x] at q;f_shut q
   · exact S.k.hhb x
 · kso_open hp
 · rcases mem_append.mp hq with hq | hq
   · exact nd.2.2 _ (mem_map.mpr ⟨p,hp,rfl⟩) _ (mem_map.mpr ⟨q,hq,rfl⟩)
   · exact S2.ao p (mem_append_left _ hp) q hq
 · rintro v mv own2 ob2 fz' h2 tk2 ⟨rfl,fs,o1,o2,d1,d2,hP⟩ F2 N2 nd2 ao2 he hf2 ho hi2
   ctx_has v own2 ob2 fz' h2 tk2 fs o1 o2
   refine ⟨hi2.none_eq,?_⟩
   have S3:=S.back F2 N2 nd2 ao2 he hf2 ho
   refine E3_3 (ho.dl d1) λ pre oX post e4_3 q1 q2=>?_;ctx_has pre oX post;subst e4_3
   revert S3
   refine q1.objE λ S3=>?_
   have S4:=S3.freeze q2 λ hs zz=>S3.kn.mono hs
   refine E3_3 (S4.ow.dl d2) λ pre2 oD post2 e2 q3 q4=>?_
   ctx_has pre2 oD post2
   rw [e2] at S4
   revert S4
   refine q3.fldE λ es k hfs S4=>?_
   have S5:=S4.freeze q4 λ hs zz=>S4.kn.mono hs
   exact hQ (.ref x) (.inst C fs) _ vals o2 (h fs o2 hP) ⟨h2,tk2,m,cm,_,cel,_,S5,.cons (.inst (.tail _ (.head _)) (.head _) (hfs.mono λ p hp=>.tail _ hp)) (hv.mono λ p hp=>.tail _ (.tail _ (he p hp)))⟩
theorem kCall.new {hb:Bool} {C fI:Addr} {r':Nat} {args:List MV} {fs:List (String×MV)} {K:KV} (Ci:∀x dx,Md W hb fI r' (.ptr x::args) ((x,.obj C dx)::(dx,.fld [])::own) ((x,.obj C dx)::(dx,.fld fs)::own) .none) (h:K (.inst C fs) vals own)
 (hm:makesIn (KH W) C=true) (hi:findIn (KH W) (.ref C) "__init__"=some (some (.ref fI))) (hf:isFn (KH W) (.ref fI)=true) (hr:autoParam (r'+1<=r) aD) (hhb:autoParam (hb=true\/I.hb=false) aI):kCall c (.ref C) [] K args vals own :=
 kCall.newX (P:=λ f o=>f=fs/\o=own) (λ x dx=>(Ci x dx).mono λ m o ⟨e1,e2⟩=>⟨e1,fs,_,_,e2 ▸ .head,.head,rfl,rfl⟩) (λ _ _ ⟨e1,e2⟩=>e1 ▸ e2 ▸ h) hm hi hf hr hhb
end
theorem sa_num {W:Wd}:SaOk W 254 (Str.ofString "number"):=⟨by kernel_rfl,by kernel_rfl,by kernel_rfl,by kernel_rfl⟩
theorem sa_gen {W:Wd}:SaOk W 254 (Str.ofString "generation"):=⟨by kernel_rfl,by kernel_rfl,by kernel_rfl,by kernel_rfl⟩
theorem sa_text {W:Wd}:SaOk W 183 (Str.ofString "text"):=⟨by kernel_rfl,by kernel_rfl,by kernel_rfl,by kernel_rfl⟩
theorem sa_ref {W:Wd}:SaOk W 409 (Str.ofString "reference"):=⟨by kernel_rfl,by kernel_rfl,by kernel_rfl,by kernel_rfl⟩
theorem sa_head {W:Wd}:SaOk W 409 (Str.ofString "head"):=⟨by kernel_rfl,by kernel_rfl,by kernel_rfl,by kernel_rfl⟩
theorem sa_above {W:Wd}:SaOk W 409 (Str.ofString "above"):=⟨by kernel_rfl,by kernel_rfl,by kernel_rfl,by kernel_rfl⟩
theorem sa_inh {W:Wd}:SaOk W 409 (Str.ofString "inherited"):=⟨by kernel_rfl,by kernel_rfl,by kernel_rfl,by kernel_rfl⟩
theorem sa_isp {W:Wd}:SaOk W 409 (Str.ofString "is_page"):=⟨by kernel_rfl,by kernel_rfl,by kernel_rfl,by kernel_rfl⟩
theorem sa_pref {W:Wd}:SaOk W 388 (Str.ofString "reference"):=⟨by kernel_rfl,by kernel_rfl,by kernel_rfl,by kernel_rfl⟩
theorem sa_fields {W:Wd}:SaOk W 388 (Str.ofString "fields"):=⟨by kernel_rfl,by kernel_rfl,by kernel_rfl,by kernel_rfl⟩
theorem sa_table {W:Wd}:SaOk W 368 (Str.ofString "table"):=⟨by kernel_rfl,by kernel_rfl,by kernel_rfl,by kernel_rfl⟩
theorem sa_trailer {W:Wd}:SaOk W 368 (Str.ofString "trailer"):=⟨by kernel_rfl,by kernel_rfl,by kernel_rfl,by kernel_rfl⟩
section
variable {W:Wd} {I:Info} {r:Nat} {c:Cx W I r} {vals vals':Vs} {own own':Ow}
theorem kForX.glob {x:Str} {a:Addr} {us:List Value} {k:Nat} {l:List MV} {body:List Stmt} {K:KS} (ho:(KH W).lookup a=some (tupO us k)) (hl:∀N,MAll W.w N us l) (J:Nat->Vs->Ow->Prop) (h0:J 0 vals own)
 (turn:∀ (c':Cx W I r) i m vals own,l[i]? = some m->J i vals own->∃vals',Nt I.names vals x false m vals'/\WS c' body (kTurn J i K) vals' own) (done:∀vals own,J l.length vals own->K .nx vals own) (hcp:autoParam (I.cp=none) aR) (hhb:autoParam (I.hb=false) aR) :
 kForX c x body K (.ptr a) vals own:=by
 intro v s Q a hQ
 refine Cx.AtI.el1 a λ g tk m cm ob cel frz S hi hv=>?_
 refine hi.ptrE ?_
 have he:(c.more [] frz).env.locals=c.L:=by unfold Cx.env cEnv;rw [hcp];rfl
 refine for_core (c:=c.more [] frz) (Src:=[]) (Rel:=λ i v=>us[i]? = some v) J hcp hhb h0 (λ c' i m v o zz=>turn c' i m v o) done S.fixed (hQ.less hcp hhb S.fx) (λ p hp=>nomatch hp) (λ i v h=>(hl frz).at h) λ J' hj keep turn' done'=>?_
 rw [←(hl frz).length] at done'
 exact loop_tuple (oax:=tupO us k) J' (S.k.hhb hhb) rfl rfl (by rw [he];exact S.F) (by rw [he];exact S.N) hj (λ i m nx h=>.inr (S.k.X _ _ ho)) turn' done'
end
theorem inh_obj (P:Params):∃t1 t2 t3 t4 k,(HP P).lookup 371=some (tupO [.str (Str.ofString "Resources") t1,.str (Str.ofString "MediaBox") t2,.str (Str.ofString "CropBox") t3,.str (Str.ofString "Rotate") t4] k) :=
 ⟨_,_,_,_,_,rfl⟩
theorem cls_inh {W:Wd}:ClsIs W (Str.ofString "INHERITED") (.ref 371):=.inl (by kernel_rfl)
noncomputable def Gl (W:Wd) (x:Str) (f:Value):Prop:=nsIn (KH W) mainGlobals x=some (some f)/\keepIn (KH W) f=true
theorem WE.callG {W:Wd} {I:Info} {r:Nat} {c:Cx W I r} {vals:Vs} {own:Ow} {x:Str} {p p':Pos} {e:Expr} {args:List Expr} {f:Value} {K:KV} (g:Gl W x f) (h:WA c (e::args) (kCall c f [] K) vals own)
 (hx:(cEnv I 0 0).kindOf x=some .globalImplicit) (he:autoParam (∀env,starEach (e::args) env=(false,eval e env)::starEach args env) aK) (hp:autoParam (∀env,(backTo p (starEach args env)).any (λ zz=>zz.1)=false) aK) (hd:(x == ("__debug__":Str))=false:=by decide+kernel)
 (hc:autoParam (∀env,eval (.Call (.Name x p') (e::args) [] p) env=(do callWith p (←eval (.Name x p') env) [] (backTo p (starEach (e::args) env)) (backToKw p (keywordEach [] env)))) aK) :
 WE c (.Call (.Name x p') (e::args) [] p) K vals own:=WE.callK h g.1 g.2 hx he hp hd hc
theorem gl_kind_of {W:Wd}:Gl W (Str.ofString "kind_of") (.ref 265):=⟨by kernel_rfl,by kernel_rfl⟩
theorem gl_told_plain {W:Wd}:Gl W (Str.ofString "told_plain") (.ref 272):=⟨by kernel_rfl,by kernel_rfl⟩
theorem gl_told_objects {W:Wd}:Gl W (Str.ofString "told_objects") (.ref 277):=⟨by kernel_rfl,by kernel_rfl⟩
theorem gl_copied {W:Wd}:Gl W (Str.ofString "copied") (.ref 282):=⟨by kernel_rfl,by kernel_rfl⟩
theorem gl_turned {W:Wd}:Gl W (Str.ofString "turned") (.ref 420):=⟨by kernel_rfl,by kernel_rfl⟩
theorem gl_home_of {W:Wd}:Gl W (Str.ofString "home_of") (.ref 427):=⟨by kernel_rfl,by kernel_rfl⟩
theorem gl_is_node {W:Wd}:Gl W (Str.ofString "is_node") (.ref 434):=⟨by kernel_rfl,by kernel_rfl⟩
theorem gl_kids_of {W:Wd}:Gl W (Str.ofString "kids_of") (.ref 441):=⟨by kernel_rfl,by kernel_rfl⟩
theorem gl_met {W:Wd}:Gl W (Str.ofString "met") (.ref 448):=⟨by kernel_rfl,by kernel_rfl⟩
theorem gl_spots {W:Wd}:Gl W (Str.ofString "spots") (.ref 455):=⟨by kernel_rfl,by kernel_rfl⟩
theorem gl_fields_of {W:Wd}:Gl W (Str.ofString "fields_of") (.ref 462):=⟨by kernel_rfl,by kernel_rfl⟩
theorem gl_page_spots {W:Wd}:Gl W (Str.ofString "page_spots") (.ref 467):=⟨by kernel_rfl,by kernel_rfl⟩
theorem gl_pages {W:Wd}:Gl W (Str.ofString "pages") (.ref 472):=⟨by kernel_rfl,by kernel_rfl⟩
theorem gl_page_count {W:Wd}:Gl W (Str.ofString "page_count") (.ref 479):=⟨by kernel_rfl,by kernel_rfl⟩
theorem gl_is_count {W:Wd}:Gl W (Str.ofString "is_count") (.ref 486):=⟨by kernel_rfl,by kernel_rfl⟩
theorem gl_page_at {W:Wd}:Gl W (Str.ofString "page_at") (.ref 493):=⟨by kernel_rfl,by kernel_rfl⟩
theorem gl_kid_with {W:Wd}:Gl W (Str.ofString "kid_with") (.ref 500):=⟨by kernel_rfl,by kernel_rfl⟩
theorem gl_counts_of {W:Wd}:Gl W (Str.ofString "counts_of") (.ref 507):=⟨by kernel_rfl,by kernel_rfl⟩
theorem gl_is_parent {W:Wd}:Gl W (Str.ofString "is_parent") (.ref 514):=⟨by kernel_rfl,by kernel_rfl⟩
theorem gl_is_right_count {W:Wd}:Gl W (Str.ofString "is_right_count") (.ref 521):=⟨by kernel_rfl,by kernel_rfl⟩
theorem gl_page_faults {W:Wd}:Gl W (Str.ofString "page_faults") (.ref 528):=⟨by kernel_rfl,by kernel_rfl⟩
theorem gl_settle {W:Wd}:Gl W (Str.ofString "settle") (.ref 535):=⟨by kernel_rfl,by kernel_rfl⟩
theorem gl_lay {W:Wd}:Gl W (Str.ofString "lay") (.ref 542):=⟨by kernel_rfl,by kernel_rfl⟩
theorem gl_grouped {W:Wd}:Gl W (Str.ofString "grouped") (.ref 547):=⟨by kernel_rfl,by kernel_rfl⟩
theorem gl_build_pages {W:Wd}:Gl W (Str.ofString "build_pages") (.ref 552):=⟨by kernel_rfl,by kernel_rfl⟩
theorem gl_place_of {W:Wd}:Gl W (Str.ofString "place_of") (.ref 557):=⟨by kernel_rfl,by kernel_rfl⟩
theorem gl_kid_index {W:Wd}:Gl W (Str.ofString "kid_index") (.ref 562):=⟨by kernel_rfl,by kernel_rfl⟩
theorem gl_put_reference {W:Wd}:Gl W (Str.ofString "put_reference") (.ref 569):=⟨by kernel_rfl,by kernel_rfl⟩
theorem gl_insert_page {W:Wd}:Gl W (Str.ofString "insert_page") (.ref 576):=⟨by kernel_rfl,by kernel_rfl⟩
theorem gl_remove_page {W:Wd}:Gl W (Str.ofString "remove_page") (.ref 581):=⟨by kernel_rfl,by kernel_rfl⟩
theorem gl_law_pen {W:Wd}:Gl W (Str.ofString "_law_pen") (.ref 586):=⟨by kernel_rfl,by kernel_rfl⟩
theorem gl_law_draw {W:Wd}:Gl W (Str.ofString "_law_draw") (.ref 593):=⟨by kernel_rfl,by kernel_rfl⟩
theorem gl_law_pick {W:Wd}:Gl W (Str.ofString "_law_pick") (.ref 600):=⟨by kernel_rfl,by kernel_rfl⟩
theorem gl_law_handed {W:Wd}:Gl W (Str.ofString "_law_handed") (.ref 607):=⟨by kernel_rfl,by kernel_rfl⟩
theorem gl_law_tree {W:Wd}:Gl W (Str.ofString "_law_tree") (.ref 614):=⟨by kernel_rfl,by kernel_rfl⟩
theorem gl_law_fields {W:Wd}:Gl W (Str.ofString "_law_fields") (.ref 619):=⟨by kernel_rfl,by kernel_rfl⟩
theorem gl_law_seen {W:Wd}:Gl W (Str.ofString "_law_seen") (.ref 624):=⟨by kernel_rfl,by kernel_rfl⟩
theorem gl_law_is_full {W:Wd}:Gl W (Str.ofString "_law_is_full") (.ref 631):=⟨by kernel_rfl,by kernel_rfl⟩
theorem gl_law_refused {W:Wd}:Gl W (Str.ofString "_law_refused") (.ref 638):=⟨by kernel_rfl,by kernel_rfl⟩
theorem gl_Spot {W:Wd}:Gl W (Str.ofString "Spot") (.ref 409):=⟨by kernel_rfl,by kernel_rfl⟩
theorem gl_Page {W:Wd}:Gl W (Str.ofString "Page") (.ref 388):=⟨by kernel_rfl,by kernel_rfl⟩
theorem gl_Reference {W:Wd}:Gl W (Str.ofString "Reference") (.ref 254):=⟨by kernel_rfl,by kernel_rfl⟩
theorem gl_Name {W:Wd}:Gl W (Str.ofString "Name") (.ref 183):=⟨by kernel_rfl,by kernel_rfl⟩
theorem gl_Shelf {W:Wd}:Gl W (Str.ofString "Shelf") (.ref 368):=⟨by kernel_rfl,by kernel_rfl⟩
section
variable {W:Wd} {I:Info} {r:Nat} {c:Cx W I r} {vals vals':Vs} {own own':Ow}
noncomputable def kNotV (K:KV):KV:=λ m vals own=>∃b,m = .bool b/\K (.bool (!b)) vals own
theorem kNotV.mk {K:KV} {b:Bool} (h:K (.bool (!b)) vals own):kNotV K (.bool b) vals own:=⟨b,rfl,h⟩
theorem WE.notE {e:Expr} {p:Pos} {K:KV} (h:WE c e (kNotV K) vals own):WE c (.UnaryOp .Not e p) K vals own:=by
 intro s vs ms Q a hQ
 refine UnaryOp_ (h s vs ms _ a λ v mv s' vals' own' hk a'=>?_)
 obtain ⟨b,rfl,hk⟩:=hk
 obtain ⟨N,hi⟩:=a'.inv
 refine hi.boolE ?_
 exact not_of (wpAny_truthy_bool (hQ _ _ _ _ _ hk (a'.drop.push λ zz=>.bool _)))
end
section
variable {W:Wd} {I:Info} {r:Nat} {c:Cx W I r} {vals vals':Vs} {own own':Ow}
theorem cmem_frz {ob cel frz:Lg} {p:Addr×Obj} (h:p∈frz):p∈ob++(cel++(c.old++frz)):=by k_flat
theorem kC2.eqNilL {m:MV} {l:List MV} {K:KV} {b:Bool} (R:RdL own m l) (e:l.isEmpty=b) (h:K (.bool b) vals own):kC2 c .Eq m K (.lst []) vals own:=by
 intro v iv s vs ms Q a hQ
 refine Cx.AtI.el2 a λ g tk m1 cm ob cel frz S h1 h2 hv=>?_
 refine R.el S h2 λ a us k q1 q2=>?_
 refine lst_el h1 λ d us2 k2 q3 q4=>?_
 cases q4
 have hu:=S.k.hu
 refine Mine.eqNilL S.N q1 (k:=k2) (cmem_frz q3) (by show c.un < cLine;lia) (b:=b) ?_ (hQ _ _ _ _ _ h ⟨g,tk,m1,cm,ob,cel,frz,S,.cons (.bool _) hv⟩)
 rw [←e];cases q2 <;> rfl
theorem kB2.addT {l q:List MV} {K:KV} (hq:q≠[]) (hz:l.length+q.length<=1000) (h:K (.tup (l++q)) vals own):kB2 c .Add (.tup l) K (.tup q) vals own:=by
 intro v iv s vs ms Q a hQ
 refine Cx.AtI.el2 a λ g tk m1 cm ob cel frz S h1 h2 hv=>?_
 refine tup_el h2 λ a us k q1 q2=>?_
 refine tup_el h1 λ d us2 k2 q3 q4=>?_
 refine addTupL S.F S.N (cmem_frz q1) (cmem_frz q3) (by intro e;rw [e] at q4;cases q4;exact hq rfl) (by rw [q2.length,q4.length];exact hz) λ D h' X k' F' N' off hD=>?_
 have hs:Ext frz (X++frz):=λ p hp=>by k_flat
 refine hQ _ _ _ _ _ h ⟨h',tk,m1,cm,ob,cel,X++frz,S.frzn F' (λ p hp=>N' p (by simp only [mem_append] at hp ⊢;exact hp.symm)) off,.cons (.tup (k:=k') ?_ ((q2.mono hs).append (q4.mono hs))) (hv.mono hs)⟩
 rcases mem_cons.mp hD with e | e
 · rw [e];simp [*]
 · k_flat
noncomputable def kRev (c:Cx W I r) (x:Str) (body:List Stmt) (K:KS):KV:=λ m vals own=>∀v s Q,c.At s vals own [v] [m]->c.PF K Q ->
 wpAny (model PG W.w) c.A (call (.type "reversed") [v]) (λ xv s₁=>wpAny (model PG W.w) c.A (pyIter xv) (λ it s₂=>LoopAtV PG W.w c.A c.h₀ c.env x body Q c.E it s₂) c.E s₁) c.E s
theorem WS.forV {x:Str} {px pos p p':Pos} {e:Expr} {body rest:List Stmt} {K:KS} (h:WE c e (kRev c x body (kSeq c rest K)) vals own) (hr:ClsIs W (Str.ofString "reversed") (.type "reversed")) (hx2:(cEnv I 0 0).kindOf (Str.ofString "reversed")=some .globalImplicit) (hcp:autoParam (I.cp=none) aK) (hx:autoParam (I.cs.names.lookup x=some .local) aQ)
 (he1:autoParam (∀env,starEach [e] env=(false,eval e env)::starEach [] env) aK) (hp:autoParam ((backTo p (starEach [] c.env)).any (λ zz=>zz.1)=false) aK)
 (hc':autoParam (∀env,eval (.Call (.Name (Str.ofString "reversed") p') [e] [] p) env=(do callWith p (←eval (.Name (Str.ofString "reversed") p') env) [] (backTo p (starEach [e] env)) (backToKw p (keywordEach [] env)))) aK)
 (hs:autoParam (∀env x,foldedSetIterable (.Call (.Name (Str.ofString "reversed") p') [e] [] p) env x=pure x) aK):WS c (.For (.Name x px) (.Call (.Name (Str.ofString "reversed") p') [e] [] p) body [] pos::rest) K vals own:=by
 refine WS.cons λ s Q a hQ=>?_
 have he:c.env=fEnv I c.L:=by unfold Cx.env cEnv;rw [hcp]
 refine Cx.AtI.el a λ g tk m cm ob cel frz S hv=>?_
 have a0:=Cx.AtI.mk (c:=c) g tk m cm ob cel frz S hv
 have hp1:(c.env.scope.kind == .class || (c.env.scope.kind == .module && c.env.locals != c.env.globals))=false:=by
  rw [he];show (I.cs.kind == .class || (I.cs.kind == .module && _))=false;rw [S.k.ok.hk];rfl
 refine For_invVF (m:=m) (h₀:=c.h₀) (by rw [he];exact S.F) (by rw [he];exact hx) hp1 ?_ (λ x=>hs _ x) (by have:=S.k.po hcp;rw [he];exact this)
 refine Call_ (name_cls hr hx2 (by decide+kernel) a0 ?_) (hc' _)
 refine callWith_type1 (args_cons (h _ [] [] _ a0 λ v mv s' vals' own' hk a'=>?_) (he1 _)) (he1 _) hp
 exact args_nil (hk v s' Q a' hQ)
theorem kRev.lst {x:Str} {body:List Stmt} {K:KS} {l:List MV} (J:Nat->Vs->Ow->Prop) (h0:J 0 vals own)
 (turn:∀ (c':Cx W I r) i m vals own,l.reverse[i]? = some m->J i vals own->∃vals',Nt I.names vals x false m vals'/\WS c' body (kTurn J i K) vals' own) (done:∀vals own,J l.length vals own->K .nx vals own) (hcp:autoParam (I.cp=none) aR) (hhb:autoParam (I.hb=false) aR) :
 kRev c x body K (.lst l) vals own:=by
 intro v s Q a hQ
 refine Cx.AtI.el1 a λ g tk m cm ob cel frz S hi hv=>?_
 refine lst_el hi λ l0 us k hm ha=>?_
 have he:(c.more [] frz).env.locals=c.L:=by unfold Cx.env cEnv;rw [hcp];rfl
 have hm':(l0,listOf us.toArray k)∈c.all ob cel frz:=by k_flat
 refine reversedL S.F S.N hm' λ D h' F' N' lt=>?_
 refine for_core (c:=c.more [] frz) (l:=l.reverse) (Src:=[(l0,listOf us.toArray k)]) (Rel:=λ i v=>us.reverse[i]? = some v) J hcp hhb h0 (λ c' i m v o zz=>turn c' i m v o) done (S.s0.st F' (News.sub N' λ p hp=>.tail _ hp)).fixed (hQ.less hcp hhb S.fx) (λ p hp=>by rw [mem_singleton.mp hp];exact mem_append_right _ hm) (λ i v h=>ha.reverse.at h) λ J' hj keep turn' done'=>?_
 rw [←ha.length] at done'
 exact loop_rev (nw:=(D,revObj l0 ((us.length:Int) - 1))::c.all ob cel frz) J' (S.k.hhb hhb) (.head _) hm' (by rw [he];exact F') (by rw [he];exact N') (λ p hp=>.tail _ hp) lt hj (λ i m nx h=>keep i m nx h _ (.head _)) turn' done'
theorem cls_rev:ClsIs W (Str.ofString "reversed") (.type "reversed"):=.inr ⟨by kernel_rfl,by kernel_rfl,by decide⟩
noncomputable def kF1 (c:Cx W I r) (f:Value) (K:KV):KV:=λ m vals own=>O1 c (λ v=>call f [v]) K m vals own
theorem WE.bi1 {e:Expr} {x:Str} {id:String} {p p':Pos} {K:KV} (h:WE c e (kF1 c (.builtin id) K) vals own) (hi:ClsIs W x (.builtin id)) (hx:(cEnv I 0 0).kindOf x=some .globalImplicit) (hd:(x == ("__debug__":Str))=false)
 (he1:autoParam (∀env,starEach [e] env=(false,eval e env)::starEach [] env) aK) (hp:autoParam ((backTo p (starEach [] c.env)).any (λ zz=>zz.1)=false) aK)
 (hc':autoParam (∀env,eval (.Call (.Name x p') [e] [] p) env=(do callWith p (←eval (.Name x p') env) [] (backTo p (starEach [e] env)) (backToKw p (keywordEach [] env)))) aK):WE c (.Call (.Name x p') [e] [] p) K vals own:=by
 intro s vs ms Q a hQ
 refine Call_ (name_cls hi hx hd a ?_) (hc' _)
 refine PyProof.Rows.callWith_builtin1 (args_cons (h s vs ms _ a λ v mv s' vals' own' hk a'=>?_) (he1 _)) (he1 _) hp
 exact args_nil (hk v s' vs ms Q a' hQ)
theorem WE.ty1 {e:Expr} {x:Str} {id:String} {p p':Pos} {K:KV} (h:WE c e (kF1 c (.type id) K) vals own) (hi:ClsIs W x (.type id)) (hx:(cEnv I 0 0).kindOf x=some .globalImplicit) (hd:(x == ("__debug__":Str))=false)
 (he1:autoParam (∀env,starEach [e] env=(false,eval e env)::starEach [] env) aK) (hp:autoParam ((backTo p (starEach [] c.env)).any (λ zz=>zz.1)=false) aK)
 (hc':autoParam (∀env,eval (.Call (.Name x p') [e] [] p) env=(do callWith p (←eval (.Name x p') env) [] (backTo p (starEach [e] env)) (backToKw p (keywordEach [] env)))) aK):WE c (.Call (.Name x p') [e] [] p) K vals own:=by
 intro s vs ms Q a hQ
 refine Call_ (name_cls hi hx hd a ?_) (hc' _)
 refine callWith_type1 (args_cons (h s vs ms _ a λ v mv s' vals' own' hk a'=>?_) (he1 _)) (he1 _) hp
 exact args_nil (hk v s' vs ms Q a' hQ)
theorem cls_len:ClsIs W (Str.ofString "len") (.builtin "len"):=.inr ⟨by kernel_rfl,by kernel_rfl,by decide⟩
theorem kF1.lenL {m:MV} {l:List MV} {K:KV} (R:RdL own m l) (hz:l.length<=900) (h:K (.int (l.length:Nat)) vals own):kF1 c (.builtin "len") K m vals own:=by
 intro v s vs ms Q a hQ
 refine Cx.AtI.el1 a λ g tk m1 cm ob cel frz S hi hv=>?_
 refine R.el S hi λ a us k h1 h2=>?_
 refine Mine.lenL S.N h1 (by rw [h2.length];exact hz) (hQ _ _ _ _ _ h ⟨g,tk+1+1,m1,cm,ob,cel,frz,S,.cons (by rw [h2.length];exact .int _ _) hv⟩)
theorem kF1.lenT {l:List MV} {K:KV} (hz:l.length<=900) (h:K (.int (l.length:Nat)) vals own):kF1 c (.builtin "len") K (.tup l) vals own:=by
 intro v s vs ms Q a hQ
 refine Cx.AtI.el1 a λ g tk m1 cm ob cel frz S hi hv=>?_
 refine tup_el hi λ a us k h1 h2=>?_
 refine Mine.lenT S.N (cmem_frz h1) (by rw [h2.length];exact hz) (hQ _ _ _ _ _ h ⟨g,tk+1+1,m1,cm,ob,cel,frz,S,.cons (by rw [h2.length];exact .int _ _) hv⟩)
theorem kF1.lenI {m:MV} {kvs:List (Int×MV)} {K:KV} (R:RdI own m kvs) (hz:kvs.length<=900) (h:K (.int (kvs.length:Nat)) vals own):kF1 c (.builtin "len") K m vals own:=by
 intro v s vs ms Q a hQ
 refine Cx.AtI.el1 a λ g tk m1 cm ob cel frz S hi hv=>?_
 refine R.el S hi λ d o pvs h1 h2 h3 h4=>?_
 have hl:=h4.length
 refine lenD S.N h1 h3 h2 (by rw [hl];exact hz) (hQ _ _ _ _ _ h ⟨g,tk+1+1,m1,cm,ob,cel,frz,S,.cons (by rw [hl];exact .int _ _) hv⟩)
end
section
variable {prog:Program} {w:World} {A:Around} {E:Value->Shared->Prop} {s:Shared}
noncomputable def CtxN (h:Heap) (e:Addr):Prop:=∃oe ws,h.get? e=some oe/\oe.data = .fields ws/\ws[2]? = some .none
noncomputable def HAt (hh:Option Value) (h:Heap):Prop:=match hh with | none=>True | some (.ref e)=>CtxN h e | some _=>False
noncomputable def fpH:Option Value->List Addr | some (.ref e)=>[e] | _=>[]
theorem HAt.at {hh:Option Value} {h h':Heap} (x:HAt hh h) (hk:∀b∈fpH hh,∀o,h.get? b=some o->h'.get? b=some o):HAt hh h':=by
 unfold HAt at x ⊢
 split at x
 · trivial
 · refine E2_3 x λ oe ws a b c=>?_;clear x
   exact ⟨oe,ws,hk _ (.head _) _ a,b,c⟩
 · exact x.elim
theorem HAt.lt {hh:Option Value} {h:Heap} (x:HAt hh h):∀b∈fpH hh,∃o,h.get? b=some o:=λ b hb=>by
 unfold HAt at x
 split at x
 · f_shut hb
 · refine E2_2 x λ oe ws a zz=>?_;clear x
   rw [mem_singleton.mp hb];exact ⟨_,a⟩
 · exact x.elim
theorem entry_unchain:entryFor table "proto.unchain"=some Builtin.«proto.unchain» := entryFor_of_tree (by kernel_rfl)
theorem raise_in {α:Type} {e x:Addr} {ox:Obj} {xs:Array Value} {Q:α->Shared->Prop} (hh:A.handled=some (.ref e)) (hxe:e≠x) (he:CtxN s.heap e) (hx:s.heap.get? x=some ox) (hdx:ox.data = .fields xs) (hz:2 < xs.size)
 (h:E (.ref x) {s with heap:=s.heap.update x (Obj.mapFields (·.setIfInBounds 2 (.ref e)))}):wpAny (model prog w) A (raiseNew (.ref x):Sem α) Q E s:=by
 refine E2_3 he λ oe ws he1 he2 he3=>?_;clear he
 unfold raiseNew
 refine wpAny_bind (wpAny_handled ?_)
 rw [hh]
 have hne:(Value.ref e != Value.ref x)=true:=by simpa using hxe
 dsimp only
 rw [if_pos hne]
 refine wpAny_bind (wpAny_holding (wpAny_runValue (codeAny_builtin entry_unchain ?_)))
 unfold Builtin.«proto.unchain»
 refine wpAny_bind (wpAny_field he1 he2 he3 ?_)
 rw [if_pos (show (Value.none == Value.none)=true from by rfl)]
 refine wpAny_pure ?_
 show wpAny _ _ (updateField x 2 (.ref e) >>= λ zz=>throw (.ref x)) _ _ _
 unfold updateField
 refine wpAny_bind (wpAny_bind (wpAny_load hx ?_))
 rw [hdx]
 dsimp only
 rw [if_pos hz]
 exact wpAny_update' hx (wpAny_throw h)
theorem stop_in {α:Type} {Q:α->Shared->Prop} (hA:HAt A.handled s.heap)
 (h:∀h' x,(∀b o,s.heap.get? b=some o->h'.get? b=some o)->(∃o,h'.get? x=some o/\o.cls = .type "StopIteration")->E (.ref x) {s with heap:=h'}) :
 wpAny (model prog w) A (newExc (.type "StopIteration") [] >>= λ e=>(raiseNew e:Sem α)) Q E s:=by
 refine wpAny_bind ?_
 simp only [newExc,newTuple]
 refine wpAny_bind (wpAny_newObj_type ?_ (by size_fits))
 refine wpAny_bind (m:=firstArgMember _ _) (wpAny_of_eq (a:=Value.none) (by first | rfl | (simp only [firstArgMember];rfl)) ?_)
 refine wpAny_newObj_type ?_ (by size_fits)
 have up:∀b o,s.heap.get? b=some o->((s.heap.push {cls:=.type "tuple",dict:=none,data:=.seq ([]:List Value).toArray}).push {cls:=.type "StopIteration",dict:=none,data:=.fields (#[.ref s.heap.objs.size,.none,.none,.none,.bool false,.none]++ownMembersOf (.type "StopIteration") [])}).get? b=some o :=
  λ b o e=>Heap.get?_push_of_some _ (Heap.get?_push_of_some _ e)
 have hx:((s.heap.push {cls:=.type "tuple",dict:=none,data:=.seq ([]:List Value).toArray}).push {cls:=.type "StopIteration",dict:=none,data:=.fields (#[.ref s.heap.objs.size,.none,.none,.none,.bool false,.none]++ownMembersOf (.type "StopIteration") [])}).get? (s.heap.push {cls:=.type "tuple",dict:=none,data:=.seq ([]:List Value).toArray}).objs.size=some _:=Heap.get?_push_size _ rfl
 cases hh:A.handled with
 | none=>exact wpAny_raiseNew_none hh (h _ _ up ⟨_,hx,rfl⟩)
 | some v =>
  rw [hh] at hA
  induction v with
  | ref e =>
   have hA':CtxN s.heap e:=hA
   refine E2_3 hA' λ oe ws a1 a2 a3=>?_;clear hA'
   have hxe:e≠(s.heap.push {cls:=.type "tuple",dict:=none,data:=.seq ([]:List Value).toArray}).objs.size:=Nat.ne_of_lt (by rw [Heap.size_push];exact Nat.lt_succ_of_lt (Heap.lt_size a1))
   refine raise_in hh hxe ⟨oe,ws,up _ _ a1,a2,a3⟩ hx rfl (by grind) ?_
   refine h _ _ (λ b o e1=>?_) ⟨_,Heap.get?_update_self _ hx rfl,rfl⟩
   rw [Heap.get?_update_other _ _ (Ne.symm (Nat.ne_of_lt (by rw [Heap.size_push];exact Nat.lt_succ_of_lt (Heap.lt_size e1))))]
   exact up _ _ e1
  | _=>exact hA.elim
theorem next_list_endH {it l:Addr} {i:Nat} {items} {Q:Option Value->Shared->Prop} (hA:HAt A.handled s.heap) (hI:it∉fpH A.handled)
 (hit:s.heap.IsListIter it l i) (hl:s.heap.IsList l items) (hx:items[i]? = none)
 (hQ:∀h',(∀b o,b≠it->s.heap.get? b=some o->h'.get? b=some o)->Q none {s with heap:=h'}):wpAny (model prog w) A (pyNext (.ref it)) Q E s:=by
 ctx_has prog w A E s it l i items Q
 refine E1_3 (id hit) λ o ho hc hd=>?_
 obtain ⟨ol,hol,_,nl,hdl⟩:=hl
 unfold pyNext
 refine wpAny_bind (wpAny_attempt (wpAny_callSpecial?_slot (name:=Str.ofString "__next__") hit.typeIs slot_listiter_next
  (wpAny_call_entry slot_listiter_next hit.typeIs entry_listiter_next ?_ (args_listiter_next _))))
 show wpAny _ _ (field (.ref it) 0 >>= _) _ _ s
 refine wpAny_bind (wpAny_field ho hd (x:=.ref l) rfl ?_)
 show wpAny _ _ (if (Value.ref l == Value.none)=true then _ else _) _ _ s
 rw [if_neg (show ¬ ((Value.ref l == Value.none)=true) from Bool.false_ne_true)]
 show wpAny _ _ (field (.ref it) 1 >>= _) _ _ s
 refine wpAny_bind (wpAny_field ho hd (x:=.int i 0) rfl ?_)
 show wpAny _ _ (seqItems? (.ref l) >>= _) _ _ s
 refine wpAny_bind (wpAny_seqItems hol hdl ?_)
 simp only [Int.toNat_natCast,hx]
 refine wpAny_bind (wpAny_rule (wpAny_bind (wpAny_setField ho hd (by simp) ?_)))
 have oth:∀b o',b≠it->s.heap.get? b=some o'->(s.heap.update it (Obj.mapFields (·.setIfInBounds 0 Value.none))).get? b=some o':=λ b o' hb e=>by
  rw [Heap.get?_update_other _ _ (Ne.symm hb)];exact e
 refine stop_in (A:=A.in1) (HAt.at (show HAt A.in1.handled s.heap from hA) λ b hb o' e=>oth b o' (λ q=>hI (q ▸ hb)) e) λ h' x k ⟨ox,hox,hcx⟩=>?_
 refine wpAny_bind (wpAny_isInstance (T:="StopIteration") (b:=true) ⟨_,hox,hcx⟩ isSubtype_stop ?_)
 exact wpAny_pure (hQ _ λ b o' hb e=>k _ _ (oth b o' hb e))
theorem walks_listH {prog:Program} {w:World} {A:Around} (I ax:Addr) (hne:ax≠I) (hI:I∉fpH A.handled) (items:Array Value) :
 Walks prog w A I (I::ax::fpH A.handled) [I] items.size (λ i v=>items[i]? = some v) (λ i h=>h.IsListIter I ax i/\h.IsList ax items/\HAt A.handled h) where
 sub:=λ b hb=>by simp at hb;simp [hb]
 frame:=λ zz zz zz st hk=>⟨st.1.at λ o e=>hk I (by simp) o e,st.2.1.at λ o e=>hk ax (by simp) o e,st.2.2.at λ b hb o e=>hk b (by k_flat) o e⟩
 item:=λ i s Q E hi st hQ=>by
  refine wpAny_pyNext_list_item st.1 st.2.1 (x:=items[i]) (by simp) λ h' hit' hs'=>?_
  exact hQ _ h' s.toks (by simp) ⟨hit',st.2.1.extBut hs'.extBut hne,st.2.2.at λ b hb o e=>hs'.extBut b o (λ q=>hI (q ▸ hb)) e⟩ λ b o hb e=>hs'.extBut b o (λ h=>hb (by simp [h])) e
 done:=λ s Q E st hQ=>next_list_endH st.2.2 hI st.1 st.2.1 (by simp) λ h' he'=>hQ h' s.toks λ b o hb e=>he' b o (λ h=>hb (by simp [h])) e
 self:=λ zz zz zz zz st hQ=>wpAny_pyIter_listiter st.1 hQ
end
section
variable {prog:Program} {w:World} {K:Type} [DecidableEq K] {knd:KeyKind prog w K} {A:Around} {E:Value->Shared->Prop} {s:Shared}
theorem next_dict_endH {it d:Addr} {i ep:Nat} {kvs:List (K×Value)} {Q:Option Value->Shared->Prop} (hA:HAt A.handled s.heap) (hI:it∉fpH A.handled) (hit:s.heap.IsKeyIter it d i kvs.length ep)
 (hm:s.heap.DictAt knd d kvs ep) (hx:kvs[i]? = none)
 (hQ:∀h',(∀b o,b≠it->s.heap.get? b=some o->h'.get? b=some o)->Q none {s with heap:=h'}):wpAny (model prog w) A (pyNext (.ref it)) Q E s:=by
 refine E1_3 (id hit) λ o ho hc hd=>?_
 refine E2_6 (id hm) λ od es hod hcd hdd hk hp hn=>?_
 unfold pyNext
 refine wpAny_bind (wpAny_attempt (wpAny_callSpecial?_slot (name:=Str.ofString "__next__") hit.typeIs PySem.F.slot_dict_keyiterator_next
  (wpAny_call_entry PySem.F.slot_dict_keyiterator_next hit.typeIs PySem.F.entry_dict_keyiterator_next ?_ (PySem.F.args_dict_keyiterator_next_1 _))))
 refine wpAny_bind (wpAny_pure ?_)
 refine wpAny_bind ?_
 refine wpAny_bind ?_
 first | refine wpAny_bind (wpAny_typeNameOfWhole_keyiter hit.typeIs (wpAny_pure ?_)) | refine wpAny_bind (wpAny_typeNameOf_keyiter hit.typeIs (wpAny_pure ?_))
 refine wpAny_bind (wpAny_fieldsOf ho hd ?_)
 show wpAny _ _ (if (Value.ref d == Value.none)=true then _ else _) _ _ s
 rw [if_neg (show ¬ ((Value.ref d == Value.none)=true) from Bool.false_ne_true)]
 refine wpAny_bind (wpAny_pure ?_)
 refine wpAny_bind (wpAny_dictEntries hod hdd ?_)
 have hsz:es.size=kvs.length:=by rw [←hp.length];simp
 rw [if_neg (by rw [hsz];simp)]
 refine wpAny_bind (wpAny_pure ?_)
 refine wpAny_bind (wpAny_dictEpoch hod hdd ?_)
 rw [if_neg (by simp)]
 refine wpAny_pure ?_
 have hge:es.size<=i:=by rw [hsz];simpa using hx
 simp only [show ¬ ((i:Int) < 0) from by simp+arith,if_false,Int.toNat_natCast,Array.getElem?_eq_none hge]
 refine wpAny_bind ?_
 first | refine wpAny_bind (wpAny_typeNameOfWhole_keyiter hit.typeIs (wpAny_pure ?_)) | refine wpAny_bind (wpAny_typeNameOf_keyiter hit.typeIs (wpAny_pure ?_))
 show wpAny _ _ (setField (.ref it) 0 .none >>= _) _ _ s
 refine wpAny_bind (wpAny_setField ho hd (by simp) ?_)
 have oth:∀b o',b≠it->s.heap.get? b=some o'->(s.heap.update it (Obj.mapFields (·.setIfInBounds 0 Value.none))).get? b=some o':=λ b o' hb e=>by
  rw [Heap.get?_update_other _ _ (Ne.symm hb)];exact e
 refine stop_in (A:=A.in1) (HAt.at (show HAt A.in1.handled s.heap from hA) λ b hb o' e=>oth b o' (λ q=>hI (q ▸ hb)) e) λ h' x k ⟨ox,hox,hcx⟩=>?_
 refine wpAny_bind (wpAny_isInstance (T:="StopIteration") (b:=true) ⟨_,hox,hcx⟩ isSubtype_stop ?_)
 exact wpAny_pure (hQ _ λ b o' hb e=>k _ _ (oth b o' hb e))
theorem walks_keysH (I d:Addr) (hne:d≠I) (hI:I∉fpH A.handled) (kvs:List (K×Value)) (ep:Nat) :
 Walks prog w A I (I::d::fpH A.handled) [I] kvs.length (λ i v=>∃k x,kvs[i]? = some (k,x)/\knd.is k v=true) (λ i h=>h.IsKeyIter I d i kvs.length ep/\h.DictAt knd d kvs ep/\HAt A.handled h) where
 sub:=λ b hb=>by simp at hb;simp [hb]
 frame:=λ zz zz zz st hk=>⟨st.1.at λ o e=>hk I (by simp) o e,st.2.1.at' λ o e=>hk d (by simp) o e,st.2.2.at λ b hb o e=>hk b (by k_flat) o e⟩
 item:=λ i s Q E hi st hQ=>by
  obtain ⟨⟨k,x⟩,hx⟩:∃p,kvs[i]? = some p:=⟨kvs[i],by simp⟩
  refine wpAny_pyNext_dict_item st.1 st.2.1 hx λ key h' hkey hit' hs'=>?_
  exact hQ key h' s.toks ⟨k,x,hx,hkey⟩ ⟨hit',st.2.1.extBut hs'.extBut hne,st.2.2.at λ b hb o e=>hs'.extBut b o (λ q=>hI (q ▸ hb)) e⟩ λ b o hb e=>hs'.extBut b o (λ h=>hb (by simp [h])) e
 done:=λ s Q E st hQ=>next_dict_endH st.2.2 hI st.1 st.2.1 (by simp) λ h' he'=>hQ h' s.toks λ b o hb e=>he' b o (λ h=>hb (by simp [h])) e
 self:=λ zz zz zz zz st hQ=>wpAny_pyIter_keyiter st.1 hQ
theorem collect_keysH {d:Addr} {kvs:List (K×Value)} {ep:Nat} {R:List Value->Shared->Prop} (hA:HAt A.handled s.heap) (lo:(d == sysModules)=false) (hm:s.heap.DictAt knd d kvs ep) (hn:kvs.length<=sizeLine)
 (h:∀ (h':Heap) (tk:Nat) (acc:Array Value),(∀b o,s.heap.get? b=some o->h'.get? b=some o)->ItemsOf (λ i v=>∃k x,kvs[i]? = some (k,x)/\knd.is k v=true) acc kvs.length->R acc.toList {s with heap:=h',toks:=tk}) :
 wpAny (model prog w) A (collect (.ref d)) R E s:=by
 have hlt:=hm.lt_size
 unfold collect
 refine wpAny_bind (wpAny_runValue (codeAny_builtin entry_proto_collect' ?_))
 rw [Around.under_plainId PySem.F.plain_proto_collect _]
 show wpAny _ A.in1 (newList [] >>= λ l=>again (.builtin "list.__iadd__" ⟨[l,.ref d],[]⟩)) _ _ s
 refine wpAny_bind (wpAny_newObj_type ?_)
 refine wpAny_pure ⟨plainId_quiet PySem.F.plain_list_iadd _,codeAny_builtin entry_list_iadd' ?_⟩
 rw [Around.under_plainId PySem.F.plain_list_iadd _]
 have hS₁:(s.heap.push {cls:=.type "list",data:=.seq ([]:List Value).toArray}).get? s.heap.objs.size=some {cls:=.type "list",data:=.seq #[]}:=Heap.get?_push_size _ rfl
 show wpAny _ A.in1 (Builtin.List.listExtendWith (.ref s.heap.objs.size) (.ref d) (.ref s.heap.objs.size)) _ _ _
 unfold Builtin.List.listExtendWith
 have up1:∀b o,s.heap.get? b=some o->(s.heap.push {cls:=.type "list",data:=.seq ([]:List Value).toArray}).get? b=some o:=λ b o e=>Heap.get?_push_of_some _ e
 have hm1:(s.heap.push {cls:=.type "list",data:=.seq ([]:List Value).toArray}).DictAt knd d kvs ep:=hm.at' λ o e=>up1 _ _ e
 refine wpAny_bind (wpAny_typeOf (T:="dict") hm1.dictOf.typeIs ?_)
 have hSd:s.heap.objs.size≠d:=Nat.ne_of_gt hlt
 have h1:Builtin.List.listSameRef (.ref s.heap.objs.size) (.ref d)=false:=by simp [Builtin.List.listSameRef,hSd]
 simp only [h1,show (Value.type "dict" == Value.type "list")=false by decide,show (Value.type "dict" == Value.type "tuple")=false by decide,Bool.or_false,Bool.false_eq_true,if_false]
 refine wpAny_bind (wpAny_pyIter_dict lo hm1 ?_)
 have hIz:(s.heap.push {cls:=.type "list",data:=.seq ([]:List Value).toArray}).objs.size=s.heap.objs.size+1:=Heap.size_push _ _
 have hS₂:=Heap.get?_push_of_some {cls:=.type "dict_keyiterator",data:=.fields #[.ref d,.int 0 0,.int kvs.length 0,.int ep 0]} hS₁
 have hI:(s.heap.push {cls:=.type "list",data:=.seq ([]:List Value).toArray}).objs.size∉fpH A.in1.handled:=λ q=>by
  obtain ⟨o,ho⟩:=hA.lt _ q
  have:=Heap.lt_size ho
  rw [hIz] at this;exact absurd this (Nat.not_lt.mpr (Nat.le_succ _))
 have hdI:d≠(s.heap.push {cls:=.type "list",data:=.seq ([]:List Value).toArray}).objs.size:=by rw [hIz];exact Nat.ne_of_lt (Nat.lt_succ_of_lt hlt)
 have hSI:s.heap.objs.size≠(s.heap.push {cls:=.type "list",data:=.seq ([]:List Value).toArray}).objs.size:=by rw [hIz];exact Nat.ne_of_lt (Nat.lt_succ_self _)
 have hSf:s.heap.objs.size∉(s.heap.push {cls:=.type "list",data:=.seq ([]:List Value).toArray}).objs.size::d::fpH A.in1.handled:=λ q=>by
  rcases mem_cons.mp q with q | q
  · exact hSI q
  rcases mem_cons.mp q with q | q
  · exact hSd q
  · obtain ⟨o,ho⟩:=hA.lt _ q
    exact absurd (Heap.lt_size ho) (Nat.lt_irrefl _)
 have W:=walks_keysH (prog:=prog) (w:=w) (A:=A.in1) (knd:=knd) _ d hdI hI kvs ep
 have st:HAt A.in1.handled ((s.heap.push {cls:=.type "list",data:=.seq ([]:List Value).toArray}).push {cls:=.type "dict_keyiterator",data:=.fields #[.ref d,.int 0 0,.int kvs.length 0,.int ep 0]}):=HAt.at (show HAt A.in1.handled s.heap from hA) λ b zz o e=>Heap.get?_push_of_some _ (up1 _ _ e)
 have key:∀ (h₁:Heap) (c₁ tk:Nat),(h₁.IsKeyIter (s.heap.push {cls:=.type "list",data:=.seq ([]:List Value).toArray}).objs.size d 0 kvs.length ep/\h₁.DictAt knd d kvs ep/\HAt A.in1.handled h₁)->(∀b o,b≠s.heap.objs.size->s.heap.get? b=some o->h₁.get? b=some o) ->
  h₁.get? s.heap.objs.size=some {cls:=.type "list",data:=.seq #[] c₁} ->
  codeAny (model prog w) A (.builtin "list.extend.loop" ⟨[.ref s.heap.objs.size,.ref (s.heap.push {cls:=.type "list",data:=.seq ([]:List Value).toArray}).objs.size,.ref s.heap.objs.size],[]⟩)
   (λ q s'=>∃ (h':Heap) (tk:Nat) (acc':Array Value) (c':Nat),q = .ok (.ret (.ref s.heap.objs.size))/\s'={s with heap:=h',toks:=tk} /\
    (∀b o,s.heap.get? b=some o->h'.get? b=some o)/\h'.get? s.heap.objs.size=some {cls:=.type "list",dict:=none,data:=.seq acc' c',slots := #[]}/\ItemsOf (λ i v=>∃k x,kvs[i]? = some (k,x)/\knd.is k v=true) acc' kvs.length) {s with heap:=h₁,toks:=tk}:=by
  intro h₁ c₁ tk hst hk hS'
  refine codeAny_extend_loopS W.toS hn _ hSf (.ref s.heap.objs.size) kvs.length 0 _ #[] c₁ rfl (Nat.zero_le _) hst hS' (ItemsOf.nil _) λ s' acc' c' hmv hS'' hacc=>?_
  rw [Moved.eq_with hmv]
  refine ⟨s'.heap,s'.toks,acc',c',rfl,rfl,λ b o e=>hmv.heap b o (λ hmem=>?_) (hk b o (Nat.ne_of_lt (Heap.lt_size e)) e),hS'',hacc⟩
  rcases mem_cons.mp hmem with e' | hmem
  · exact absurd (Heap.lt_size e) (by rw [e'];exact Nat.lt_irrefl _)
  · exact absurd (Heap.lt_size e) (by rw [mem_singleton.mp hmem,hIz];exact Nat.not_lt.mpr (Nat.le_succ _))
 have hm2:((s.heap.push {cls:=.type "list",data:=.seq ([]:List Value).toArray}).push {cls:=.type "dict_keyiterator",data:=.fields #[.ref d,.int 0 0,.int kvs.length 0,.int ep 0]}).DictAt knd d kvs ep:=hm1.at' λ o e=>Heap.get?_push_of_some _ e
 have st2:((s.heap.push {cls:=.type "list",data:=.seq ([]:List Value).toArray}).push {cls:=.type "dict_keyiterator",data:=.fields #[.ref d,.int 0 0,.int kvs.length 0,.int ep 0]}).IsKeyIter (s.heap.push {cls:=.type "list",data:=.seq ([]:List Value).toArray}).objs.size d 0 kvs.length ep:=⟨_,Heap.get?_push_size _ rfl,rfl,rfl⟩
 have up2:∀b o,s.heap.get? b=some o->((s.heap.push {cls:=.type "list",data:=.seq ([]:List Value).toArray}).push {cls:=.type "dict_keyiterator",data:=.fields #[.ref d,.int 0 0,.int kvs.length 0,.int ep 0]}).get? b=some o:=λ b o e=>Heap.get?_push_of_some _ (up1 b o e)
 refine wpAny_bind (wpAny_holding (kdl_hint_dict hm2.dictOf.typeIs ?_))
 refine wpAny_ite_split (λ zz=>?_) (λ zz=>?_)
 · refine wpAny_bind (wpAny_rule ?_)
   refine wpAny_bind ?_
   show wpAny _ _ (updateSeq s.heap.objs.size (·.push .none) >>= λ zz=>updateSeq s.heap.objs.size (λ zz=>zz.pop)) _ _ _
   refine wpAny_bind (wpAny_updateSeq hS₂ rfl ?_)
   have hS₃:=Heap.get?_update_self (Obj.mapSeq (·.push Value.none)) hS₂ rfl
   refine wpAny_updateSeq (hz:=by seq_fits) hS₃ rfl ?_
   have hS₄:=Heap.get?_update_self (Obj.mapSeq (λ zz=>zz.pop)) hS₃ rfl
   have ot:∀ {b:Addr} {o:Obj},b≠s.heap.objs.size->((s.heap.push {cls:=.type "list",data:=.seq ([]:List Value).toArray}).push {cls:=.type "dict_keyiterator",data:=.fields #[.ref d,.int 0 0,.int kvs.length 0,.int ep 0]}).get? b=some o->((((s.heap.push {cls:=.type "list",data:=.seq ([]:List Value).toArray}).push {cls:=.type "dict_keyiterator",data:=.fields #[.ref d,.int 0 0,.int kvs.length 0,.int ep 0]}).update s.heap.objs.size (Obj.mapSeq (·.push Value.none))).update s.heap.objs.size (Obj.mapSeq (λ zz=>zz.pop))).get? b=some o:=λ hb e =>
    (Heap.get?_update_other _ _ (Ne.symm hb)).trans ((Heap.get?_update_other _ _ (Ne.symm hb)).trans e)
   have i1:=Heap.IsKeyIter.at st2 λ o e=>ot (Ne.symm hSI) e
   have i2:=Heap.DictAt.at' hm2 λ o e=>ot (Ne.symm hSd) e
   have i3:=HAt.at st λ b hb o e=>ot (λ q=>hSf (q ▸ .tail _ (.tail _ hb))) e
   have i4:∀b o,b≠s.heap.objs.size->s.heap.get? b=some o->_:=λ b o hb e=>ot hb (up2 b o e)
   refine wpAny_pure ⟨plainId_quiet PySem.F.plain_extend_loop _,?_⟩
   refine codeAny_mono (key _ _ _ ⟨i1,i2,i3⟩ i4 hS₄) λ q s' y=>?_
   refine E4_5 y λ h' tk acc' c' e2_4 e2_5 hk hS' hacc=>?_;clear y;subst e2_4;subst e2_5
   show wpAny _ A (load s.heap.objs.size >>= _) _ _ _
   refine wpAny_bind (wpAny_load hS' ?_)
   exact wpAny_pure (h h' tk acc' hk hacc)
 · refine wpAny_pure ⟨plainId_quiet PySem.F.plain_extend_loop _,codeAny_mono (key _ _ _ ⟨st2,hm2,st⟩ (λ b o zz e=>up2 b o e) hS₂) λ q s' y=>?_⟩
   refine E4_5 y λ h' tk acc' c' e3_4 e3_5 hk hS' hacc=>?_;clear y;subst e3_4;subst e3_5
   show wpAny _ A (load s.heap.objs.size >>= _) _ _ _
   refine wpAny_bind (wpAny_load hS' ?_)
   exact wpAny_pure (h h' tk acc' hk hacc)
theorem sorted_H {d:Addr} {h₀:Heap} {L:Addr} {m:Str->Option Value} {news:Lg} {kvs:List (K×Value)} {ep:Nat} {Q:Value->Shared->Prop} (hA:HAt A.handled s.heap) (lo:(d == sysModules)=false) (F:Fr h₀ L s.heap m) (N:News h₀ L s.heap news) (hm:s.heap.DictAt knd d kvs ep) (hn:kvs.length<=sizeLine)
 (h:∀ (D:Addr) (h':Heap) (tk:Nat) (vs:List Value),Fr h₀ L h' m->News h₀ L h' ((D,listOf vs.toArray 0)::news)->(∀q∈news,q.1 < D)->vs.length=kvs.length->(∀ (j:Nat) (v:Value),vs[j]? = some v->∃k x,kvs[j]? = some (k,x)/\knd.is k v=true) ->
  wpAny (model prog w) A.in1 (call (.builtin "list.sort") [.ref D]) (λ zz s'=>Q (.ref D) s') E {s with heap:=h',toks:=tk}) :
 wpAny (model prog w) A (call (.builtin "sorted") [.ref d]) Q E s:=by
 refine call_function_entry kind_sorted plain_sorted entry_sorted (args_sorted1 _) ?_
 unfold Builtin.«sorted»
 refine wpAny_bind (m:=checkCount "sorted" 1 1 _) (wpAny_pure ?_)
 refine wpAny_bind (collect_keysH (A:=A.in1) (show HAt A.in1.handled s.heap from hA) lo hm hn λ h' tk acc hk hacc=>?_)
 have hl:acc.toList.length=kvs.length:=by rw [Array.length_toList];exact hacc.1
 refine wpAny_bind (wpAny_newList ?_ (by rw [hl];exact hn))
 have hg:=h h'.objs.size (h'.push {cls:=.type "list",data:=.seq acc.toList.toArray}) tk acc.toList ((F.keeps hk).push _) (News.push (F.keeps hk) (λ p hp=>⟨hk _ _ (N p hp).1,(N p hp).2⟩) _ rfl)
  (λ q hq=>Heap.lt_size (hk _ _ (N q hq).1)) hl (λ j v e=>hacc.2 j v (by rw [←Array.getElem?_toList];exact e))
 refine wpAny_bind (wpAny_holding (wpAny_mono hg (λ zz s' x=>?_) λ zz zz e=>e))
 exact wpAny_pure ⟨_,rfl,x⟩
end
theorem HIn.at {hh:Option Value} {N:Lg} {h₀ h:Heap} {L:Addr} (x:HIn hh N) (Nw:News h₀ L h N):HAt hh h:=by
 unfold HIn at x;unfold HAt
 split at x
 · trivial
 · refine E2_3 x λ oe ws a b c=>?_;clear x
   exact ⟨oe,ws,(Nw _ a).1,b,c⟩
 · exact x.elim
section
variable {prog:Program} {w:World} {A:Around} {E:Value->Shared->Prop} {s:Shared} {h₀:Heap} {L:Addr} {m:Str->Option Value} {env:Env}
noncomputable abbrev RestT:=(Str->Option Value)->Shared->(Lg->Prop)->(Nat->Value->Prop)->Nat->Lg->Prop
noncomputable def SrcZ (prog:Program) (w:World) (A:Around) (h₀:Heap) (L:Addr) (Rest:RestT) (xv:Value) (s₁:Shared):Prop :=
 ∃ (m:Str->Option Value) (oI:Obj) (fp:List Addr) (n:Nat) (P:Nat->Value->Prop) (St:Nat->Heap->Prop) (S:Lg->Prop) (news:Lg),Fr h₀ L s₁.heap m/\News h₀ L s₁.heap news/\S news/\n<=sizeLine/\(∀b∈fp,b < s₁.heap.objs.size) /\
  (∀ (E:Value->Shared->Prop) (Q:Value->Shared->Prop),Q (.ref s₁.heap.objs.size) {s₁ with heap:=s₁.heap.push oI}->wpAny (model prog w) A (pyIter xv) Q E s₁) /\
  Walks prog w A s₁.heap.objs.size (s₁.heap.objs.size::fp) [s₁.heap.objs.size] n P St/\(∀i h,St i h->∃o,h.get? s₁.heap.objs.size=some o) /\
  (∀i h h' o nw,St i h->h.get? s₁.heap.objs.size=some o->h'.get? s₁.heap.objs.size=some o->(∀b o,h₀.get? b=some o->h'.get? b=some o)->News h₀ L h' nw->S nw->St i h')/\St 0 (s₁.heap.push oI) /\
  ∀s₂:Shared,(∃h,s₂={s₁ with heap:=h})->Rest m s₂ S P n news
noncomputable def restOf (prog:Program) (w:World) (A:Around) (h₀:Heap) (L:Addr) (env:Env) (ct:Option Expr) (elt:Expr) (x:Str) (scope:Scope) (cl:List (Str×Addr)) (Fin:(Str->Option Value)->Shared->List Value->Lg->Prop):RestT:=λ m s₂ S P n news=>match ct with
 | none=>LCg.CompRest prog w A h₀ L m env elt x scope cl s₂ S P (Fin m s₂) n 0 [] news
 | some ct=>LCt.CompRestT prog w A h₀ L m env ct elt x scope cl s₂ S P (Fin m s₂) n 0 [] news
theorem fpl_lt {s₁:Shared} {oI:Obj} {fp:List Addr} (hfp:∀b∈fp,b < s₁.heap.objs.size):∀b∈s₁.heap.objs.size::fp,b < (s₁.heap.push oI).objs.size:=λ b hb=>by
 rw [Heap.size_push]
 rcases mem_cons.mp hb with rfl | hb
 · exact Nat.lt_succ_self _
 · exact Nat.lt_succ_of_lt (hfp b hb)
theorem ListComp_Z {ct:Option Expr} {elt iter:Expr} {x:Str} {px:Pos} {scope:Scope} {cl:List (Str×Addr)} {pos:Pos} {Q:Value->Shared->Prop}
 (hclos:closureFor scope env=pure cl) (hcell:∀y∈scope.names,y.2≠.cell) (hkind:scope.kind = .function)
 (hnames:∀y∈scope.names,y.2 = .local->scope.names.lookup y.1=some .local) (hx:scope.names.lookup x=some .local)
 (h:wpAny (model prog w) A (eval iter env) (SrcZ prog w A h₀ L (restOf prog w A h₀ L env ct elt x scope cl (λ m s₂=>LCg.FinE h₀ L m s₂ Q))) E s)
 (hs:∀x,foldedSetIterable iter env x=pure x) :
 wpAny (model prog w) A (eval (.ListComp elt [⟨.Name x px,iter,ct.toList,0⟩] scope pos) env) Q E s:=by
 ctx_has prog w A E s h₀ L env ct elt iter x px scope cl pos Q
 rw [eval_ListComp]
 refine wpAny_comprehension_free (use:=none) rfl hs hclos hkind hnames (wpAny_mono h (λ xv s₁ h₁=>?_) λ zz zz e=>e)
 refine E8_11 (h₁) λ m oI fp n P St S news F N hS hsz hfp hit W hIo hSt h0 R=>?_
 refine hit _ _ ?_
 have up:∀b o,s₁.heap.get? b=some o->(s₁.heap.push oI).get? b=some o:=λ b o e=>Heap.get?_push_of_some _ e
 have R':=R {s₁ with heap:=s₁.heap.push oI} ⟨_,rfl⟩
 have off:∀p∈news,p.1≠s₁.heap.objs.size:=λ p hp=>Nat.ne_of_lt (Heap.lt_size (N p hp).1)
 induction ct with
 | none =>
  refine LCg.block_U W hsz hIo hSt hcell hkind hx h0 (fpl_lt hfp) (F.keeps up) (N.grown up) (Nat.ne_of_lt F.ns.lt) (next_is_new F) off hS R' ?_
  intro D C h tk m' ys news' F' N' o1 hn hC₀ hD₀ hCL hDL hCD offC fin
  refine ⟨m',hn,λ h'' hs''=>fin D h'' tk (F'.change hs'' hCL hC₀) (λ p hp=>?_) o1⟩
  refine ⟨hs''.extBut _ _ ?_ (N' p hp).1,(N' p hp).2⟩
  rcases mem_cons.mp hp with rfl | hp
  · exact Ne.symm hCD
  · exact offC p hp
 | some ct =>
  refine LCt.block_T W hsz hIo hSt hcell hkind hx h0 (fpl_lt hfp) (F.keeps up) (N.grown up) (Nat.ne_of_lt F.ns.lt) (next_is_new F) off hS R' ?_
  intro D C h tk m' ys news' F' N' o1 hn hC₀ hD₀ hCL hDL hCD offC fin
  refine ⟨m',hn,λ h'' hs''=>fin D h'' tk (F'.change hs'' hCL hC₀) (λ p hp=>?_) o1⟩
  refine ⟨hs''.extBut _ _ ?_ (N' p hp).1,(N' p hp).2⟩
  rcases mem_cons.mp hp with rfl | hp
  · exact Ne.symm hCD
  · exact offC p hp
theorem AssignComp_Z {ct:Option Expr} {elt iter:Expr} {x y:Str} {px py:Pos} {scope:Scope} {cl:List (Str×Addr)} {pos spos:Pos} {Q:Flow->Shared->Prop} (hLe:env.locals=L)
 (hsw:swapsWith (.ListComp elt [⟨.Name x px,iter,ct.toList,0⟩] scope pos) (some (.Name y py)) spos.line env=pure true)
 (hclos:closureFor scope env=pure cl) (hcell:∀y∈scope.names,y.2≠.cell) (hkind:scope.kind = .function)
 (hnames:∀y∈scope.names,y.2 = .local->scope.names.lookup y.1=some .local) (hx:scope.names.lookup x=some .local)
 (hy:env.kindOf y=some .local) (hp:(env.scope.kind == .class || (env.scope.kind == .module && env.locals != env.globals))=false)
 (h:wpAny (model prog w) A (eval iter env) (SrcZ prog w A h₀ L (restOf prog w A h₀ L env ct elt x scope cl (λ m s₂=>LCg.FinA h₀ L m s₂ y Q))) E s)
 (hs:∀x,foldedSetIterable iter env x=pure x) :
 wpAny (model prog w) A (exec (.Assign [.Name y py] (.ListComp elt [⟨.Name x px,iter,ct.toList,0⟩] scope pos) spos) env) Q E s:=by
 ctx_has prog w A E s h₀ L env ct elt iter x y px py scope cl pos spos Q
 subst hLe
 rw [exec_Assign_Name_used _ _ _ _ hsw]
 refine wpAny_bind (wpAny_standAt (wpAny_bind ?_))
 show wpAny _ A (do let _ ← comprehension (.ListComp elt [⟨.Name x px,iter,ct.toList,0⟩] scope pos) scope env _ (newList []) false (eval iter env) (some (assign (.Name y py) env))) _ _ s
 refine wpAny_bind (wpAny_mono (wpAny_comprehension_free (use:=some (assign (.Name y py) env)) (Q:=λ zz s'=>Q .next s') rfl hs hclos hkind hnames
  (wpAny_mono h (λ xv s₁ h₁=>?_) λ zz zz e=>e)) (λ zz s' hq=>wpAny_pure (wpAny_pure hq)) λ zz zz e=>e)
 refine E8_11 (h₁) λ m oI fp n P St S news F N hS hsz hfp hit W hIo hSt h0 R=>?_
 refine hit _ _ ?_
 have up:∀b o,s₁.heap.get? b=some o->(s₁.heap.push oI).get? b=some o:=λ b o e=>Heap.get?_push_of_some _ e
 have R':=R {s₁ with heap:=s₁.heap.push oI} ⟨_,rfl⟩
 have off:∀p∈news,p.1≠s₁.heap.objs.size:=λ p hp=>Nat.ne_of_lt (Heap.lt_size (N p hp).1)
 induction ct with
 | none =>
  refine LCg.block_U W hsz hIo hSt hcell hkind hx h0 (fpl_lt hfp) (F.keeps up) (N.grown up) (Nat.ne_of_lt F.ns.lt) (next_is_new F) off hS R' ?_
  intro D C h' tk m' ys news' F' N' o1 hn hC₀ hD₀ hCL hDL hCD offC fin
  show wpAny _ A (assign (.Name y py) env (.ref D)) _ _ _
  refine wpAny_assign_Name (wpAny_storeName_local hy F'.ns (λ h₂ hn₂ hs₂=>?_) hp)
  have hL₀:h₀.get? env.locals=none:=Heap.get?_none_of_le F'.above
  have F₂:Fr h₀ env.locals h₂ (λ z=>if z=y then some (.ref D) else m z):=⟨hn₂,λ b o e=>hs₂.extBut b o (λ q=>by rw [q,hL₀] at e;f_shut e) (F'.keep b o e),F'.above⟩
  refine ⟨m',hn.sameBut hs₂ hCL,λ h'' hs''=>fin D h'' _ (F₂.change hs'' hCL hC₀) (λ p hp=>?_) o1⟩
  have z:h₂.get? p.1=some p.2:=hs₂.extBut _ _ (N' p hp).2.1 (N' p hp).1
  refine ⟨hs''.extBut _ _ ?_ z,(N' p hp).2⟩
  rcases mem_cons.mp hp with rfl | hp
  · exact Ne.symm hCD
  · exact offC p hp
 | some ct =>
  refine LCt.block_T W hsz hIo hSt hcell hkind hx h0 (fpl_lt hfp) (F.keeps up) (N.grown up) (Nat.ne_of_lt F.ns.lt) (next_is_new F) off hS R' ?_
  intro D C h' tk m' ys news' F' N' o1 hn hC₀ hD₀ hCL hDL hCD offC fin
  show wpAny _ A (assign (.Name y py) env (.ref D)) _ _ _
  refine wpAny_assign_Name (wpAny_storeName_local hy F'.ns (λ h₂ hn₂ hs₂=>?_) hp)
  have hL₀:h₀.get? env.locals=none:=Heap.get?_none_of_le F'.above
  have F₂:Fr h₀ env.locals h₂ (λ z=>if z=y then some (.ref D) else m z):=⟨hn₂,λ b o e=>hs₂.extBut b o (λ q=>by rw [q,hL₀] at e;f_shut e) (F'.keep b o e),F'.above⟩
  refine ⟨m',hn.sameBut hs₂ hCL,λ h'' hs''=>fin D h'' _ (F₂.change hs'' hCL hC₀) (λ p hp=>?_) o1⟩
  have z:h₂.get? p.1=some p.2:=hs₂.extBut _ _ (N' p hp).2.1 (N' p hp).1
  refine ⟨hs''.extBut _ _ ?_ z,(N' p hp).2⟩
  rcases mem_cons.mp hp with rfl | hp
  · exact Ne.symm hCD
  · exact offC p hp
theorem SrcZ.list {Rest:RestT} {hh:Option Value} {ax:Addr} {vs:List Value} {k:Nat} {news:Lg} {s₁:Shared} (hA:A.handled=hh) (hI:HIn hh news) (F:Fr h₀ L s₁.heap m) (N:News h₀ L s₁.heap news) (hm:(ax,listOf vs.toArray k)∈news) (hz:vs.length<=900)
 (h:∀g,Rest m {s₁ with heap:=g} (λ nw=>(ax,listOf vs.toArray k)∈nw/\HIn hh nw) (λ i v=>vs[i]? = some v) vs.length news):SrcZ prog w A h₀ L Rest (.ref ax) s₁:=by
 ctx_has prog w A h₀ L m Rest hh ax vs k news s₁
 have hl:s₁.heap.IsList ax vs.toArray:=⟨_,(N _ hm).1,rfl,_,rfl⟩
 have hlt:ax < s₁.heap.objs.size:=Heap.lt_size (N _ hm).1
 have hI:=(hA ▸ hI:HIn A.handled news)
 have hA2:=hI.at N
 have hI':s₁.heap.objs.size∉fpH A.handled:=λ q=>by obtain ⟨o,ho⟩:=hA2.lt _ q;exact absurd (Heap.lt_size ho) (Nat.lt_irrefl _)
 have W:=walks_listH (prog:=prog) (w:=w) (A:=A) s₁.heap.objs.size ax (Nat.ne_of_lt hlt) hI' vs.toArray
 simp only [List.size_toArray,List.getElem?_toArray] at W
 refine ⟨m,_,ax::fpH A.handled,vs.length,_,_,(λ nw=>(ax,listOf vs.toArray k)∈nw/\HIn hh nw),news,F,N,⟨hm,hA ▸ hI⟩,Nat.le_trans hz (show 900<=sizeLine by decide),λ b hb=>?_,λ E Q hq=>wpAny_pyIter_list hl hq,W,
  λ i h st=>by refine E1_2 (st.1) λ o e zz=>?_;exact ⟨o,e⟩,?_,⟨⟨_,Heap.get?_push_size _ rfl,rfl,rfl⟩,hl.push _,hA2.at λ b zz o e=>Heap.get?_push_of_some _ e⟩,λ _ ⟨g,e⟩=>e ▸ h g⟩
 · rcases mem_cons.mp hb with rfl | hb
   · exact hlt
   · obtain ⟨o,ho⟩:=hA2.lt b hb;exact Heap.lt_size ho
 · intro i h h' o nw st e e' kk N S
   exact ⟨by refine E1_2 (st.1) λ o' q r=>?_;rw [e] at q;f_shut q;exact ⟨o,e',r⟩,⟨_,(N _ S.1).1,rfl,_,rfl⟩,(hA ▸ S.2:HIn A.handled _).at N⟩
theorem SrcZ.keys {Rest:RestT} {d:Addr} {o:Obj} {kvs:List (Str×Value)} {news:Lg} {s₁:Shared} (hh:A.handled=none) (F:Fr h₀ L s₁.heap m) (N:News h₀ L s₁.heap news) (hm:(d,o)∈news) (lo:(d == sysModules)=false) (hd:o.IsDictOf (PySem.strKind prog w) kvs) (hz:kvs.length<=900)
 (h:∀g,Rest m {s₁ with heap:=g} (λ nw=>(d,o)∈nw) (λ i v=>∃k y,kvs[i]? = some (k,y)/\(PySem.strKind prog w).is k v=true) kvs.length news):SrcZ prog w A h₀ L Rest (.ref d) s₁:=by
 ctx_has prog w A h₀ L m Rest d o kvs news s₁
 obtain ⟨ep,ha⟩:=KdkAt.of hd
 ctx_has ep
 have hol:s₁.heap.get? d=some o:=(N _ hm).1
 have hda:=ha.dictAt hol
 have hlt:=Heap.lt_size hol
 refine ⟨m,_,[d],kvs.length,_,_,_,news,F,N,hm,Nat.le_trans hz (show 900<=sizeLine by decide),λ b hb=>by rw [mem_singleton.mp hb];exact hlt,λ E Q hq=>wpAny_pyIter_dict lo hda hq,
  Walks.dictKeys (prog:=prog) (w:=w) (knd:=PySem.strKind prog w) hh s₁.heap.objs.size d (Nat.ne_of_lt hlt) kvs ep,λ i h st=>let ⟨o,ho,_⟩:=st.1;⟨o,ho⟩,?_,⟨⟨_,Heap.get?_push_size _ rfl,rfl,rfl⟩,hda.at' λ o e=>Heap.get?_push_of_some _ e⟩,λ _ ⟨g,e⟩=>e ▸ h g⟩
 intro i h h' o' nw st e e' k N' S'
 refine ⟨?_,ha.dictAt (N' _ S').1⟩
 refine E1_2 (st.1) λ o'' q r=>?_
 rw [e] at q;f_shut q;exact ⟨_,e',r⟩
theorem SrcZ.tuple {Rest:RestT} {d:Addr} {vs:List Value} {k:Nat} {news:Lg} {s₁:Shared} (hh:A.handled=none) (F:Fr h₀ L s₁.heap m) (N:News h₀ L s₁.heap news) (hm:(d,tupO vs k)∈news\/h₀.get? d=some (tupO vs k)) (hz:vs.length<=900)
 (h:∀g,Rest m {s₁ with heap:=g} (λ nw=>(d,tupO vs k)∈nw\/h₀.get? d=some (tupO vs k)) (λ i v=>vs[i]? = some v) vs.length news):SrcZ prog w A h₀ L Rest (.ref d) s₁:=by
 ctx_has prog w A h₀ L m Rest d vs k news s₁
 have hol:s₁.heap.get? d=some (tupO vs k):=hm.elim (λ h=>(N _ h).1) λ h=>F.keep _ _ h
 have hls:s₁.heap.IsTuple d vs.toArray:=⟨_,hol,rfl,k,rfl⟩
 have hlt:=Heap.lt_size hol
 have W:=Walks.tuple (prog:=prog) (w:=w) hh s₁.heap.objs.size d (Nat.ne_of_lt hlt) vs.toArray
 simp only [List.size_toArray,List.getElem?_toArray] at W
 refine ⟨m,_,[d],vs.length,_,_,(λ nw=>(d,tupO vs k)∈nw\/h₀.get? d=some (tupO vs k)),news,F,N,hm,Nat.le_trans hz (show 900<=sizeLine by decide),λ b hb=>by rw [mem_singleton.mp hb];exact hlt,λ E Q hq=>wpAny_pyIter_tuple hls hq,
  W,λ i h st=>let ⟨o,ho,_⟩:=st.1;⟨o,ho⟩,?_,⟨⟨_,Heap.get?_push_size _ rfl,rfl,rfl⟩,hls.at λ o e=>Heap.get?_push_of_some _ e⟩,λ _ ⟨g,e⟩=>e ▸ h g⟩
 intro i h h' o' nw st e e' kk N' S'
 refine ⟨?_,⟨_,S'.elim (λ h=>(N' _ h).1) λ h=>kk _ _ h,rfl,k,rfl⟩⟩
 refine E1_2 (st.1) λ o'' q r=>?_
 rw [e] at q;f_shut q;exact ⟨_,e',r⟩
end
noncomputable abbrev Info.cmp (I:Info) (ns:List (Str×Bool)) (sc:Scope):Info:={I with names:=ns,cp:=some sc}
noncomputable def okC (I:Info) (ns:List (Str×Bool)) (sc:Scope):Bool:=decide ((ns.map (λ zz=>zz.1)).Nodup) && (ns.all λ p=>(cEnv (I.cmp ns sc) 0 0).kindOf p.1 == some (if p.2 then .cell else .local)) && (cEnv (I.cmp ns sc) 0 0).scope.kind == .function && (ns.all λ p => !p.2 || (I.names.contains p && sc.names.contains (p.1,.free)))
set_option tactic.hygienic true in
theorem clF_look {sc:Scope} {env:Env} {y:Str} {a:Addr} (h:(y,NameKind.free)∈sc.names) (ha:env.cells.lookup y=some a):(clF sc env).lookup y=some a:=by
 ctx_has sc env y a
 have key:∀ (l:List (Str×NameKind)) (acc:List (Str×Addr)),(∀q∈acc,q.1=y->q.2=a)->((y,NameKind.free)∈l\/∃q∈acc,q.1=y)->((((l.filter λ p=>p.2 == .free).map λ p=>(p.1,(env.cells.lookup p.1).getD 0)).reverse)++acc).lookup y=some a:=by
  intro l
  induction l with
  | nil =>
   intro acc h1 h2
   rcases h2 with h2 | ⟨q,h3,h4⟩
   · f_shut h2
   · simp only [List.filter_nil,List.map_nil,List.reverse_nil,List.nil_append]
     skip
     induction acc with
     | nil=>f_shut h3
     | cons p r ih =>
      rw [List.lookup_cons]
      split
      · rename_i e;exact congrArg some (h1 p (.head _) (eq_of_beq e).symm)
      · rename_i e
        refine ih (λ q hq=>h1 q (.tail _ hq)) ?_
        rcases mem_cons.mp h3 with rfl | h3
        · exact absurd (beq_iff_eq.mpr h4.symm) (by simpa using e)
        · exact h3
  | cons p r ih =>
   intro acc h1 h2
   by_cases hp:(p.2 == NameKind.free)=true
   · rw [List.filter_cons_of_pos (by exact hp),map_cons,List.reverse_cons,append_assoc,List.singleton_append]
     refine ih _ ?_ ?_
     · intro q hq e
       rcases mem_cons.mp hq with rfl | hq
       · simp only at e ⊢;rw [e,ha];rfl
       · exact h1 q hq e
     · rcases h2 with h2 | ⟨q,h3,h4⟩
       · rcases mem_cons.mp h2 with e | h2
         · exact .inr ⟨_,.head _,by rw [←e]⟩
         · exact .inl h2
       · exact .inr ⟨q,.tail _ h3,h4⟩
   · rw [List.filter_cons_of_neg (by exact hp)]
     refine ih acc h1 ?_
     rcases h2 with h2 | h2
     · rcases mem_cons.mp h2 with e | h2
       · rw [←e] at hp;exact absurd rfl hp
       · exact .inl h2
     · exact .inr h2
 have:=key sc.names [] (λ _ h=>nomatch h) (.inl h)
 simpa [clF] using this
theorem OkI.cmp {I:Info} {ns:List (Str×Bool)} {sc:Scope} (ok:OkI I) (hcp:I.cp=none) (h:okC I ns sc=true):OkI (I.cmp ns sc):=by
 ctx_has I ns sc
 unfold okC at h
 simp only [Bool.and_eq_true,decide_eq_true_eq,List.all_eq_true,beq_iff_eq,Bool.or_eq_true,Bool.not_eq_true',List.contains_iff_mem] at h
 obtain ⟨⟨⟨h1,h2⟩,h3⟩,h4⟩:=h
 refine ⟨h1,h2,h3,ok.hk,ok.cnd,λ p hp hb L=>?_⟩
 rcases h4 p hp with h | ⟨h5,h6⟩
 · rw [hb] at h;f_shut h
 · refine E1_2 (ok.cl p h5 hb L) λ a ha hm=>?_
   refine ⟨a,?_,hm⟩
   show (clF sc (fEnv I L)).lookup p.1=some a
   refine clF_look h6 ?_
   rw [←ha];unfold cEnv;rw [hcp]
section
variable {W:Wd} {I:Info} {r:Nat} {c:Cx W I r} {vals vals':Vs} {own own':Ow}
inductive Cap (ns:List (Str×Bool)) (vals:Vs):List (Str×Bool)->Vs->Prop
 | nil:Cap ns vals [] []
 | cons {y mv l u}:Nm ns vals y mv->(y,true)∈ns->Cap ns vals l u->Cap ns vals ((y,true)::l) (some mv::u)
noncomputable def Cx.cmp (c:Cx W I r) (ns:List (Str×Bool)) (sc:Scope) (C:Addr) (m cm:Str->Option Value) (it frz:Lg) (E:Value->Shared->Prop):Cx W (I.cmp ns sc) r :=
 {dp:=c.dp,un:=c.un,gd:=c.gd,L:=c.L,C:=C,m0:=m,cm0:=cm,outer:=c.outer,A₀:=c.A₀,base:=c.base,h₀:=c.h₀,s:=c.s,E:=E,old:=it++c.old,fz:=frz,hh:=c.hh}
theorem Cx.Ok.cmp {ns:List (Str×Bool)} {sc:Scope} {C:Addr} {m cm:Str->Option Value} {it frz:Lg} {E:Value->Shared->Prop} (k:c.Ok) (ok':OkI (I.cmp ns sc)):(c.cmp ns sc C m cm it frz E).Ok:=⟨k.B,k.X,k.T,ok',k.hd,k.hu,k.hhb,λ q=>nomatch q⟩
theorem Cap.kn0 {m cm:Str->Option Value} {N:Lg} {caps:List (Str×Bool)} {u:Vs} {I2:Info} {c2:Cx W I2 r} (ok:OkI I) (k:c.Kn m cm N I.names vals) (cap:Cap I.names vals caps u):c2.Kn m cm N caps u:=by
 induction cap with
 | nil=>exact .nil
 | @cons y mv' l u n hm zz ih =>
  refine E2_3 (k.at n) λ b v' hm' hh hi=>?_
  have:b=true:=by
   have k1:=ok.kd _ hm';have k2:=ok.kd _ hm
   rw [k1] at k2
   cases b <;> first | rfl | (simp at k2)
  subst this
  exact .some (v:=v') hh hi ih
theorem Cap.kn {x:Str} {sc:Scope} {v:Value} {mv:MV} {m cm:Str->Option Value} {N:Lg} {caps:List (Str×Bool)} {u:Vs} {c':Cx W (I.cmp ((x,false)::caps) sc) r} (ok:OkI I) (k:c.Kn m cm N I.names vals) (cap:Cap I.names vals caps u) (hv:MIn W.w N v mv) {oC:Obj} {m2:Str->Option Value} (h1:(c'.C,oC)∈c'.old) (h2:LCg.NsObj oC m2) (h3:m2 x=some v) :
 c'.Kn m cm N ((x,false)::caps) (some mv::u):=.some (v:=v) ⟨oC,m2,h1,h2,h3⟩ hv (Cap.kn0 ok k cap)
noncomputable abbrev CompJ (J:Nat->List MV->Ow->Prop) (i:Nat) (l:List MV):KV:=λ m zz own=>J (i+1) (l++[m]) own
noncomputable abbrev CompT (c:Cx W I r) (elt:Expr) (J:Nat->List MV->Ow->Prop) (i:Nat) (l:List MV):KB:=λ b vals own=>match b with | true=>WE c elt (CompJ J i l) vals own | false=>J (i+1) l own
noncomputable abbrev WC (c:Cx W I r) (ct:Option Expr) (elt:Expr) (J:Nat->List MV->Ow->Prop) (i:Nat) (l:List MV) (vals:Vs) (own:Ow):Prop:=match ct with
 | none=>WE c elt (CompJ J i l) vals own
 | some ct=>WT c ct (CompT c elt J i l) vals own
theorem WC.n {elt:Expr} {J:Nat->List MV->Ow->Prop} {i:Nat} {l:List MV} (h:WE c elt (CompJ J i l) vals own):WC c none elt J i l vals own:=h
noncomputable def FinOK (c:Cx W I r) (F:(Str->Option Value)->Shared->List Value->Lg->Prop) (vals:Vs) (vs:List Value) (ms:List MV) (Kd:List MV->Ow->Prop):Prop :=
 ∀ (m cm:Str->Option Value) (ob cel frz:Lg) (own:Ow) (l:List MV) (ys:List Value) (tk:Nat) (g2:Heap),c.S0 m cm ob cel frz vals own->MAll W.w frz vs ms->MAll W.w frz ys l->Kd l own->∀nx,Ext nx (c.all ob cel frz)->Ext (c.all ob cel frz) nx->F m {c.s with heap:=g2,toks:=tk} ys nx
noncomputable def kComp (c:Cx W I r) (ct:Option Expr) (elt:Expr) (x:Str) (sc:Scope) (Kd:Vs->List MV->Ow->Prop):KV:=λ mv vals own=>∀v s vs ms F,c.At s vals own (v::vs) (mv::ms)->FinOK c F vals vs ms (Kd vals) ->
 SrcZ PG W.w c.A c.h₀ c.L (restOf PG W.w c.A c.h₀ c.L c.env ct elt x sc (clF sc c.env) F) v s
noncomputable abbrev kcE (K:KV):Vs->List MV->Ow->Prop:=λ vals l own=>∀a,K (.ptr a) vals ((a,.lst l)::own)
noncomputable abbrev kcA (c:Cx W I r) (y:Str) (rest:List Stmt) (K:KS):Vs->List MV->Ow->Prop:=λ vals l own=>∀a,∃vals',Nt I.names vals y false (.ptr a) vals'/\WS c rest K vals' ((a,.lst l)::own)
theorem WS.asgC (ct:Option Expr) {elt iter:Expr} {x y:Str} {px py pos spos:Pos} {ifs:List Expr} {sc:Scope} {rest:List Stmt} {K:KS} (h:WE c iter (kComp c ct elt x sc (kcA c y rest K)) vals own) (hi:ifs=ct.toList) (hcp:I.cp=Option.none)
 (hsw:∀L,swapsWith (.ListComp elt [⟨.Name x px,iter,ct.toList,0⟩] sc pos) (some (.Name y py)) spos.line (fEnv I L)=pure true) (hy:I.cs.names.lookup y=some .local)
 (hclos:∀L,closureFor sc (fEnv I L)=pure (clF sc (fEnv I L))) (hcell:(sc.names.all λ y=>y.2 != .cell)=true) (hkind:sc.kind = .function)
 (hnames:(sc.names.all λ y=>y.2 != .local || sc.names.lookup y.1 == some .local)=true) (hx:sc.names.lookup x=some .local)
 (hs:∀env x,foldedSetIterable iter env x=pure x):WS c (.Assign [.Name y py] (.ListComp elt [⟨.Name x px,iter,ifs,0⟩] sc pos) spos::rest) K vals own:=by
 intro s Q a hQ
 subst hi
 have he:c.env=fEnv I c.L:=by unfold Cx.env cEnv;rw [hcp]
 have hp:(c.env.scope.kind == .class || (c.env.scope.kind == .module && c.env.locals != c.env.globals))=false:=by
  rw [he];show (I.cs.kind == .class || (I.cs.kind == .module && _))=false;rw [a.k.ok.hk];rfl
 refine wpAny_execs_cons (AssignComp_Z (h₀:=c.h₀) (L:=c.L) (by rw [he]) (by rw [he];exact hsw c.L) (by rw [he];exact hclos c.L) (λ y hy e=>?_) hkind (λ y hy e=>?_) hx (by rw [he];exact hy) hp (h s [] [] _ a λ v mv s' vals' own' hk a'=>hk v s' [] [] _ a' ?_) (hs _))
 · have:=List.all_eq_true.mp hcell y hy;rw [e] at this;f_shut this
 · have:=List.all_eq_true.mp hnames y hy;rw [e] at this;simpa using this
 · intro m cm ob cel frz own2 l ys tk g2 S1 hv1 hys hd nx hn1 hn2
   refine finA λ D h' tk' F' N0 off0=>?_
   have N':News c.h₀ c.L h' ((D,LCg.lst ys)::c.all ob cel frz):=λ p hp=>N0 p (by rcases mem_cons.mp hp with rfl | hp;exact .head _;exact .tail _ (hn2 p hp))
   have off:∀p∈c.all ob cel frz,p.1≠D:=λ p hp=>off0 p (hn2 p hp)
   refine E1_2 (hd D) λ vals2 t hw=>?_
   have S3:=(S1.loc hcp t (v:=.ref D) (.ptr D)).st F' λ p hp=>N' p (.tail _ hp)
   exact hw _ Q ⟨h',tk',_,cm,_,cel,frz,S3.new (a:=D) (o:=listOf ys.toArray ys.length) (ov:=.lst l) F' N' off (.lst hys),.nil⟩ hQ
theorem WE.comp (ct:Option Expr) {elt iter:Expr} {x:Str} {px pos:Pos} {ifs:List Expr} {sc:Scope} {K:KV} (h:WE c iter (kComp c ct elt x sc (kcE K)) vals own) (hi:autoParam (ifs=ct.toList) aR) (hcp:autoParam (I.cp=Option.none) aK)
 (hclos:autoParam (∀L,closureFor sc (fEnv I L)=pure (clF sc (fEnv I L))) aK) (hcell:autoParam ((sc.names.all λ y=>y.2 != .cell)=true) aQ) (hkind:autoParam (sc.kind = .function) aK)
 (hnames:autoParam ((sc.names.all λ y=>y.2 != .local || sc.names.lookup y.1 == some .local)=true) aQ) (hx:autoParam (sc.names.lookup x=some .local) aQ)
 (hs:autoParam (∀env x,foldedSetIterable iter env x=pure x) aK):WE c (.ListComp elt [⟨.Name x px,iter,ifs,0⟩] sc pos) K vals own:=by
 intro s vs ms Q a hQ
 subst hi
 have he:c.env=fEnv I c.L:=by unfold Cx.env cEnv;rw [hcp]
 refine ListComp_Z (h₀:=c.h₀) (L:=c.L) (by rw [he];exact hclos c.L) (λ y hy e=>?_) hkind (λ y hy e=>?_) hx (h s vs ms _ a λ v mv s' vals' own' hk a'=>hk v s' vs ms _ a' ?_) (hs _)
 · have:=List.all_eq_true.mp hcell y hy;rw [e] at this;f_shut this
 · have:=List.all_eq_true.mp hnames y hy;rw [e] at this;simpa using this
 · intro m cm ob cel frz own2 l ys tk g2 S1 hv1 hys hd nx hn1 hn2
   refine finE λ D h' tk' F' N0 off0=>?_
   have N':News c.h₀ c.L h' ((D,LCg.lst ys)::c.all ob cel frz):=λ p hp=>N0 p (by rcases mem_cons.mp hp with rfl | hp;exact .head _;exact .tail _ (hn2 p hp))
   have off:∀p∈c.all ob cel frz,p.1≠D:=λ p hp=>off0 p (hn2 p hp)
   exact hQ _ _ _ _ _ (hd D) ⟨h',tk',m,cm,_,cel,frz,(S1.st F' λ p hp=>N' p (.tail _ hp)).new (a:=D) (o:=listOf ys.toArray ys.length) (ov:=.lst l) F' N' off (.lst hys),.cons (.ptr _) hv1⟩
theorem comp_core {ct:Option Expr} {elt:Expr} {x:Str} {sc:Scope} {Kd:List MV->Ow->Prop} {src:List MV} {n:Nat} (J:Nat->List MV->Ow->Prop) {caps:List (Str×Bool)} {u:Vs} (cap:Cap I.names vals caps u) (hcp:I.cp=none) (hok:okC I ((x,false)::caps) sc=true) (h0:J 0 [] own)
 (turn:∀ (c':Cx W (I.cmp ((x,false)::caps) sc) r) i mv l own,src[i]? = some mv->J i l own->WC c' ct elt J i l (some mv::u) own) (done:∀l own,J n l own->Kd l own)
 {g:Heap} {tk:Nat} {m cm:Str->Option Value} {ob cel frz:Lg} {vs:List Value} {ms:List MV} {F:(Str->Option Value)->Shared->List Value->Lg->Prop} {Src:Lg} {P:Nat->Value->Prop} {Sp:Lg->Prop} (S:c.St g m cm ob cel frz vals own) (hv:MAll W.w frz vs ms) (hQ:FinOK c F vals vs ms Kd)
 (hsrc:Ext Src (c.old++frz)) (hrel:∀i v,P i v->∃m,src[i]? = some m/\MIn W.w frz v m) (hSp:∀nw,Ext Src nw->HIn c.hh nw->Sp nw) {g2:Heap} :
 restOf PG W.w c.A c.h₀ c.L c.env ct elt x sc (clF sc c.env) F m {c.s with heap:=g2,toks:=tk} Sp P n (c.all ob cel frz):=by
 revert c cap hcp hok h0 turn done S hv hQ hsrc hrel hSp;ctx_has W I r vals own ct elt x sc Kd src n J caps u g tk m cm ob cel frz vs ms F Src P Sp g2
 ctx_has c
 have he:c.env=fEnv I c.L:=by unfold Cx.env cEnv;rw [hcp]
 have ok':=S.k.ok.cmp hcp hok
 let J':Nat->List Value->Lg->Prop:=λ i ys nx=>∃ob cel frz' own l,nx=c.all ob cel frz'/\c.S0 m cm ob cel frz' vals own/\Ext frz frz'/\MAll W.w frz' vs ms/\MAll W.w frz' ys l/\J i l own
 have hi0:=S.hi
 have j0:J' 0 [] (c.all ob cel frz):=⟨ob,cel,frz,own,[],rfl,S.s0,λ zz h=>h,hv,.nil,h0⟩
 have fin:∀ys nx,J' n ys nx->F m {c.s with heap:=g2,toks:=tk} ys nx:=by
  intro ys nx hE2;refine E5_6 hE2 λ ob cel frz' own l e2_5 S1 hx hv1 hys hJ=>?_;clear hE2;subst e2_5
  exact hQ m cm ob cel frz' own l ys tk g2 S1 hv1 hys (done l own hJ) _ (λ zz h=>h) λ zz h=>h
 have step:∀i v ys nx I' oI C oC D m₂ h tk2 (E':Value->Shared->Prop),P i v->J' i ys nx->LCg.NsObj oC m₂->m₂ x=some v->Fr c.h₀ c.L h m->News c.h₀ c.L h ((I',oI)::(C,oC)::(D,LCg.lst ys)::nx)->(∀p∈nx,p.1≠I')->(∀p∈nx,p.1≠C)->(∀p∈nx,p.1≠D) ->
  ∃ (c':Cx W (I.cmp ((x,false)::caps) sc) r) (mv:MV) (l:List MV) (own:Ow),c'.A=c.A/\c'.E=E'/\c'.env=compEnvC sc (clF sc c.env) C c.env/\src[i]? = some mv/\J i l own/\c'.At {c.s with heap:=h,toks:=tk2} (some mv::u) own (ys++vs) (l++ms)/\ys.length=l.length /\
   (∀s' u' own',J (i+1) l own'->c'.At s' u' own' (ys++vs) (l++ms)->LCg.CompEnd c.h₀ c.L m {c.s with heap:=h,toks:=tk2} I' oI C oC D (LCg.lst ys) Sp (λ zz nx'=>J' (i+1) ys nx') Value.none s') /\
   (∀y my s' u' own',J (i+1) (l++[my]) own'->c'.At s' u' own' (y::(ys++vs)) (my::(l++ms))->LCg.CompEnd c.h₀ c.L m {c.s with heap:=h,toks:=tk2} I' oI C oC D (LCg.lst ys) Sp (λ y nx'=>J' (i+1) (ys++[y]) nx') y s'):=by
  intro i v ys nx I' oI C oC D m₂ h tk2 E' hP hE3;refine E5_6 hE3 λ ob cel frz' own l e3_5 S1 hx hv1 hys hJ=>?_;clear hE3;subst e3_5;intro hC hxv F1 N1 o1 o2 o3
  refine E1_2 (hrel i v hP) λ mv hmv hmi=>?_
  let it:Lg:=[(I',oI),(C,oC),(D,LCg.lst ys)]
  let c':=c.cmp ((x,false)::caps) sc C m cm it frz' E'
  have off:∀p∈it,∀q∈c.all ob cel frz',p.1≠q.1:=by
   intro p hp q hq
   simp only [it,mem_cons,not_mem_nil,or_false] at hp
   rcases hp with rfl | rfl | rfl
   · exact Ne.symm (o1 q hq)
   · exact Ne.symm (o2 q hq)
   · exact Ne.symm (o3 q hq)
  have S2:c'.S0 m cm ob cel frz' (some mv::u) own:=by
   refine ⟨S.k.cmp ok',S1.nd,λ p hp q hq=>?_,λ p hp q hq=>?_,S1.ow,S1.cc,Cap.kn S.k.ok S1.kn cap (hmi.mono hx) (oC:=oC) (show (C,oC)∈it++c.old by k_flat) hC hxv,S1.hi.mono λ p hp=>?_,λ zz h=>h,λ zz=>⟨rfl,rfl⟩⟩
   · rcases mem_append.mp hq with hq | hq
     · exact Ne.symm (off q hq p (by kso_open hp))
     · exact S1.ao p hp q hq
   · have hp':p∈ob++(cel++(it++c.old)):=hp
     simp only [mem_append] at hp'
     rcases hp' with hp | hp | hp | hp
     · exact S1.af p (by k_flat) q hq
     · exact S1.af p (by k_flat) q hq
     · exact off p hp q (by k_flat)
     · exact S1.af p (by k_flat) q hq
   · show p∈(it++c.old)++frz'
     rcases mem_append.mp hp with a | a <;> simp [*]
  have N2:News c.h₀ c.L h (c'.all ob cel frz'):=λ p hp=>N1 p (by
   have hp':p∈ob++(cel++((it++c.old)++frz')):=hp
   simp only [Cx.all,mem_append] at hp'
   rcases hp' with a | a | (a | a) | a
   · k_flat
   · k_flat
   · simp only [it,mem_cons,not_mem_nil,or_false] at a
     rcases a with a | a | a <;> simp [a]
   · k_flat
   · k_flat)
  have back:∀ {s' u' own' ys2 l2 y} {rest:Value->Lg->Prop},c'.At s' u' own' (ys2++vs) (l2++ms)->ys2.length=l2.length->(∀ob' cel' frz2,c.S0 m cm ob' cel' frz2 vals own'->Ext frz frz2->MAll W.w frz2 vs ms->MAll W.w frz2 ys2 l2->rest y (c.all ob' cel' frz2)) ->
   LCg.CompEnd c.h₀ c.L m {c.s with heap:=h,toks:=tk2} I' oI C oC D (LCg.lst ys) Sp rest y s':=by
   intro s' u' own' ys2 l2 y rest a hl hr
   refine Cx.AtI.elS a hl λ h' tk' m' cm' ob' cel' frz2 S' hw hv'=>?_
   obtain ⟨e1,e2⟩:m'=m/\cm'=cm:=S'.fm (λ q=>nomatch q)
   subst e1 e2
   have hx2:Ext frz' frz2:=S'.fx
   have hx3:Ext frz frz2:=λ p hp=>hx2 p (hx p hp)
   have hi2:HIn c.hh (c.old++frz2):=hi0.mono λ p hp=>(mem_append.mp hp).elim (λ a=>mem_append_left _ a) λ a=>mem_append_right _ (hx3 p a)
   have off2:∀p∈it,∀q∈c.all ob' cel' frz2,q.1≠p.1:=by
    intro p hp q hq
    simp only [Cx.all,mem_append] at hq
    rcases hq with hq | hq | hq | hq
    · exact S'.ao q (by k_flat) p (mem_append_left _ hp)
    · exact S'.ao q (by k_flat) p (mem_append_left _ hp)
    · exact Ne.symm (off p hp q (by k_flat))
    · exact Ne.symm (S'.af p (by show p∈ob'++(cel'++(it++c.old));k_flat) q hq)
   refine compEnd (c.all ob' cel' frz2) S'.F S'.N (λ p hp=>?_) (off2 (I',oI) (.head _)) (off2 (C,oC) (.tail _ (.head _))) (off2 (D,_) (.tail _ (.tail _ (.head _)))) (hSp _ (λ p hp=>?_) (hi2.mono λ p hp=>?_)) (hr ob' cel' frz2 ⟨S.k,S'.nd,λ p hp q hq=>S'.ao p hp q (mem_append_right _ hq),λ p hp q hq=>S'.af p (by show p∈ob'++(cel'++(it++c.old));kso_open hp) q hq,S'.ow,S'.cc,S1.kn.mono hx2,hi2,λ p hp=>hx3 p (S.fx p hp),λ q=>absurd hcp q⟩ hx3 hv' hw)
   · show p∈ob'++(cel'++((it++c.old)++frz2))
     simp only [mem_cons,Cx.all,mem_append] at hp ⊢
     rcases hp with a | a | a | a | a | a | a
     · exact .inr (.inr (.inl (.inl (by simp [it,a]))))
     · exact .inr (.inr (.inl (.inl (by simp [it,a]))))
     · exact .inr (.inr (.inl (.inl (by simp [it,a]))))
     · exact .inl a
     · exact .inr (.inl a)
     · exact .inr (.inr (.inl (.inr a)))
     · exact .inr (.inr (.inr a))
   · rcases mem_append.mp (hsrc p hp) with q | q
     · k_flat
     · simp [Cx.all,hx3 p q]
   · kso_open hp
  refine ⟨c',mv,l,own,rfl,rfl,?_,hmv,hJ,⟨h,tk2,m,cm,ob,cel,frz',S2.st F1 N2,hys.append hv1⟩,hys.length,?_,?_⟩
  · show compEnvC sc (clF sc (fEnv I c.L)) C (fEnv I c.L)=_;rw [he]
  · intro s' u' own' hJ' a
    exact back a hys.length λ ob' cel' frz2 S3 hx3 hv3 hw=>⟨ob',cel',frz2,own',l,rfl,S3,hx3,hv3,hw,hJ'⟩
  · intro y my s' u' own' hJ' a
    have a':c'.At s' u' own' ((ys++[y])++vs) ((l++[my])++ms):=by
     refine Cx.AtI.el a λ h' tk' m' cm' ob' cel' frz2 S' hw=>?_
     refine ⟨h',tk',m',cm',ob',cel',frz2,S',?_⟩
     have hl:=hys.length
     have q:=All2.splits hl hw.tl
     exact (q.1.append (.cons hw.hd .nil)).append q.2
    exact back a' (by simp [hys.length]) λ ob' cel' frz2 S3 hx3 hv3 hw=>⟨ob',cel',frz2,own',l++[my],rfl,S3,hx3,hv3,hw,hJ'⟩
 induction ct with
 | none =>
  refine comp_inv J' j0 (λ i v ys nx I' oI C oC D m₂ h tk2 E' zz hP hJ hC hxv F1 N1 o1 o2 o3 zz zz zz=>?_) fin
  refine E4_9 (step i v ys nx I' oI C oC D m₂ h tk2 E' hP hJ hC hxv F1 N1 o1 o2 o3) λ c' mv l own' eA eE ee hmv hJ' a hl zz hb=>?_
  have T:WE c' elt (CompJ J i l) (some mv::u) own':=turn c' i mv l own' hmv hJ'
  have:=T _ _ _ (LCg.CompEnd c.h₀ c.L m {c.s with heap:=h,toks:=tk2} I' oI C oC D (LCg.lst ys) Sp (λ y nx'=>J' (i+1) (ys++[y]) nx')) a λ y my s' u' own2 hk a'=>hb y my s' u' own2 hk a'
  rw [eA,eE,ee] at this
  exact this
 | some ct =>
  refine comp_invT J' j0 (λ i v ys nx I' oI C oC D m₂ h tk2 E' zz hP hJ hC hxv F1 N1 o1 o2 o3 zz zz zz=>?_) fin
  refine E4_9 (step i v ys nx I' oI C oC D m₂ h tk2 E' hP hJ hC hxv F1 N1 o1 o2 o3) λ c' mv l own' eA eE ee hmv hJ' a hl ha hb=>?_
  have T:WT c' ct (CompT c' elt J i l) (some mv::u) own':=turn c' i mv l own' hmv hJ'
  have:=T _ _ _ (λ ok s'=>if ok=true then wpAny (model PG W.w) c'.A (eval elt c'.env) (LCg.CompEnd c.h₀ c.L m {c.s with heap:=h,toks:=tk2} I' oI C oC D (LCg.lst ys) Sp (λ y nx'=>J' (i+1) (ys++[y]) nx')) c'.E s'
   else LCg.CompEnd c.h₀ c.L m {c.s with heap:=h,toks:=tk2} I' oI C oC D (LCg.lst ys) Sp (λ zz nx'=>J' (i+1) ys nx') Value.none s') a λ b s' u' own2 hk a'=>by
    induction b with
    | true=>exact hk s' _ _ _ a' λ y my s2 u2 own3 hk2 a2=>hb y my s2 u2 own3 hk2 a2
    | false=>exact ha s' u' own2 hk a'
  rw [eA,eE,ee] at this
  exact this
theorem kComp.lst {ct:Option Expr} {elt:Expr} {x:Str} {sc:Scope} {Kd:Vs->List MV->Ow->Prop} {src:List MV} (J:Nat->List MV->Ow->Prop) {caps:List (Str×Bool)} {u:Vs} (cap:Cap I.names vals caps u) (h0:J 0 [] own)
 (turn:∀ (c':Cx W (I.cmp ((x,false)::caps) sc) r) i mv l own,src[i]? = some mv->J i l own->WC c' ct elt J i l (some mv::u) own) (done:∀l own,J src.length l own->Kd vals l own) (hz:src.length<=900)
 (hok:autoParam (okC I ((x,false)::caps) sc=true) aQ) (hcp:autoParam (I.cp=none) aR):kComp c ct elt x sc Kd (.lst src) vals own:=by
 intro v s vs ms F a hQ
 refine Cx.AtI.el1 a λ g tk m cm ob cel frz S hi hv=>?_
 refine lst_el hi λ l0 us k hm ha=>?_
 have hl:=ha.length
 refine SrcZ.list (hh:=c.hh) (m:=m) (vs:=us) (k:=k) (news:=c.all ob cel frz) rfl (S.hi.mono λ p hp=>?_) S.F S.N (cmem_frz hm) (by simp+arith [*]) λ g2=>?_
 · kso_open hp
 rw [hl]
 exact comp_core (src:=src) J cap hcp hok h0 turn done S hv hQ (Src:=[(l0,listOf us.toArray k)]) (λ p hp=>by rw [mem_singleton.mp hp];exact mem_append_right _ hm) (λ i v h=>ha.at h) λ nw hE hH=>⟨hE _ (.head _),hH⟩
theorem kComp.keys {ct:Option Expr} {elt:Expr} {x:Str} {sc:Scope} {Kd:Vs->List MV->Ow->Prop} {kvs:List (Str×MV)} (J:Nat->List MV->Ow->Prop) {caps:List (Str×Bool)} {u:Vs} (cap:Cap I.names vals caps u) (h0:J 0 [] own)
 (turn:∀ (c':Cx W (I.cmp ((x,false)::caps) sc) r) i y v l own,kvs[i]? = some (y,v)->mGet kvs y=some v->J i l own->WC c' ct elt J i l (some (.str y)::u) own) (done:∀l own,J kvs.length l own->Kd vals l own) (hz:kvs.length<=900)
 (hok:autoParam (okC I ((x,false)::caps) sc=true) aQ) (hcp:autoParam (I.cp=none) aR) (hhb:autoParam (I.hb=false) aR):kComp c ct elt x sc Kd (.dct kvs) vals own:=by
 intro v s vs ms F a hQ
 refine Cx.AtI.el1 a λ g tk m cm ob cel frz S hi hv=>?_
 refine dct_el hi λ l0 o ps hm lo hd ha=>?_
 have hl:=ha.length
 have nd:=hd.choose_spec.choose_spec.2.2.2.2
 refine SrcZ.keys (m:=m) (news:=c.all ob cel frz) (S.k.hhb hhb) S.F S.N (by k_flat) lo hd (by simp+arith [*]) λ g2=>?_
 rw [hl]
 refine comp_core (src:=kvs.map λ p=>MV.str p.1) J cap hcp hok h0 ?_ done S hv hQ (Src:=[(l0,o)]) (λ p hp=>by rw [mem_singleton.mp hp];exact mem_append_right _ hm) ?_ λ nw hE zz=>hE _ (.head _)
 · intro c' i mv l own hmv hJ
   rw [getElem?_map] at hmv
   obtain ⟨⟨y,v⟩,hyv,rfl⟩:=Option.map_eq_some_iff.mp hmv
   have hlt:i < ps.length:=by rw [hl];exact (List.getElem?_eq_some_iff.mp hyv).1
   refine E1_3 (ha.look nd (i:=i) (y:=ps[i].1) (u:=ps[i].2) (by rw [List.getElem?_eq_getElem hlt])) λ m' q1 zz q2=>?_
   rw [hyv] at q1
   cases q1
   exact turn c' i _ _ l own hyv q2 hJ
 · intro i v hE8;refine E2_2 hE8 λ y u h hs=>?_;clear hE8
   refine E1_2 (ha.at h) λ mv h1 h2=>?_
   obtain ⟨t,rfl⟩:=Value.isStrOf_shape (show Value.isStrOf y v=true from hs)
   exact ⟨.str y,by rw [getElem?_map,h1];rfl,.str _ _⟩
theorem kComp.tup {ct:Option Expr} {elt:Expr} {x:Str} {sc:Scope} {Kd:Vs->List MV->Ow->Prop} {src:List MV} (J:Nat->List MV->Ow->Prop) {caps:List (Str×Bool)} {u:Vs} (cap:Cap I.names vals caps u) (h0:J 0 [] own)
 (turn:∀ (c':Cx W (I.cmp ((x,false)::caps) sc) r) i mv l own,src[i]? = some mv->J i l own->WC c' ct elt J i l (some mv::u) own) (done:∀l own,J src.length l own->Kd vals l own) (hz:src.length<=900)
 (hok:autoParam (okC I ((x,false)::caps) sc=true) aQ) (hcp:autoParam (I.cp=none) aR) (hhb:autoParam (I.hb=false) aR):kComp c ct elt x sc Kd (.tup src) vals own:=by
 intro v s vs ms F a hQ
 refine Cx.AtI.el1 a λ g tk m cm ob cel frz S hi hv=>?_
 refine tup_el hi λ l0 us k hm ha=>?_
 have hl:=ha.length
 refine SrcZ.tuple (m:=m) (vs:=us) (k:=k) (news:=c.all ob cel frz) (S.k.hhb hhb) S.F S.N (.inl (cmem_frz hm)) (by simp+arith [*]) λ g2=>?_
 rw [hl]
 exact comp_core (src:=src) J cap hcp hok h0 turn done S hv hQ (Src:=[(l0,tupO us k)]) (λ p hp=>by rw [mem_singleton.mp hp];exact mem_append_right _ hm) (λ i v h=>ha.at h) λ nw hE hH=>.inl (hE _ (.head _))
end
section
variable {W:Wd} {I:Info} {r:Nat} {c:Cx W I r} {vals vals':Vs} {own own':Ow}
theorem WE.compN {elt iter:Expr} {x:Str} {px pos:Pos} {sc:Scope} {K:KV} (h:WE c iter (kComp c Option.none elt x sc (kcE K)) vals own) (hcp:autoParam (I.cp=Option.none) aK)
 (hclos:autoParam (∀L,closureFor sc (fEnv I L)=pure (clF sc (fEnv I L))) aK) (hcell:autoParam ((sc.names.all λ y=>y.2 != .cell)=true) aQ) (hkind:autoParam (sc.kind = .function) aK)
 (hnames:autoParam ((sc.names.all λ y=>y.2 != .local || sc.names.lookup y.1 == some .local)=true) aQ) (hx:autoParam (sc.names.lookup x=some .local) aQ)
 (hs:autoParam (∀env x,foldedSetIterable iter env x=pure x) aK):WE c (.ListComp elt [⟨.Name x px,iter,[],0⟩] sc pos) K vals own:=WE.comp Option.none h rfl hcp hclos hcell hkind hnames hx hs
theorem WE.compT {ct elt iter:Expr} {x:Str} {px pos:Pos} {sc:Scope} {K:KV} (h:WE c iter (kComp c (some ct) elt x sc (kcE K)) vals own) (hcp:autoParam (I.cp=Option.none) aK)
 (hclos:autoParam (∀L,closureFor sc (fEnv I L)=pure (clF sc (fEnv I L))) aK) (hcell:autoParam ((sc.names.all λ y=>y.2 != .cell)=true) aQ) (hkind:autoParam (sc.kind = .function) aK)
 (hnames:autoParam ((sc.names.all λ y=>y.2 != .local || sc.names.lookup y.1 == some .local)=true) aQ) (hx:autoParam (sc.names.lookup x=some .local) aQ)
 (hs:autoParam (∀env x,foldedSetIterable iter env x=pure x) aK):WE c (.ListComp elt [⟨.Name x px,iter,[ct],0⟩] sc pos) K vals own:=WE.comp (some ct) h rfl hcp hclos hcell hkind hnames hx hs
theorem WS.asgN {elt iter:Expr} {x y:Str} {px py pos spos:Pos} {sc:Scope} {rest:List Stmt} {K:KS} (h:WE c iter (kComp c Option.none elt x sc (kcA c y rest K)) vals own) (hcp:autoParam (I.cp=Option.none) aK)
 (hsw:autoParam (∀L,swapsWith (.ListComp elt [⟨.Name x px,iter,[],0⟩] sc pos) (some (.Name y py)) spos.line (fEnv I L)=pure true) aK) (hy:autoParam (I.cs.names.lookup y=some .local) aQ)
 (hclos:autoParam (∀L,closureFor sc (fEnv I L)=pure (clF sc (fEnv I L))) aK) (hcell:autoParam ((sc.names.all λ y=>y.2 != .cell)=true) aQ) (hkind:autoParam (sc.kind = .function) aK)
 (hnames:autoParam ((sc.names.all λ y=>y.2 != .local || sc.names.lookup y.1 == some .local)=true) aQ) (hx:autoParam (sc.names.lookup x=some .local) aQ)
 (hs:autoParam (∀env x,foldedSetIterable iter env x=pure x) aK):WS c (.Assign [.Name y py] (.ListComp elt [⟨.Name x px,iter,[],0⟩] sc pos) spos::rest) K vals own:=WS.asgC Option.none h rfl hcp hsw hy hclos hcell hkind hnames hx hs
theorem WS.asgT {ct elt iter:Expr} {x y:Str} {px py pos spos:Pos} {sc:Scope} {rest:List Stmt} {K:KS} (h:WE c iter (kComp c (some ct) elt x sc (kcA c y rest K)) vals own) (hcp:autoParam (I.cp=Option.none) aK)
 (hsw:autoParam (∀L,swapsWith (.ListComp elt [⟨.Name x px,iter,[ct],0⟩] sc pos) (some (.Name y py)) spos.line (fEnv I L)=pure true) aK) (hy:autoParam (I.cs.names.lookup y=some .local) aQ)
 (hclos:autoParam (∀L,closureFor sc (fEnv I L)=pure (clF sc (fEnv I L))) aK) (hcell:autoParam ((sc.names.all λ y=>y.2 != .cell)=true) aQ) (hkind:autoParam (sc.kind = .function) aK)
 (hnames:autoParam ((sc.names.all λ y=>y.2 != .local || sc.names.lookup y.1 == some .local)=true) aQ) (hx:autoParam (sc.names.lookup x=some .local) aQ)
 (hs:autoParam (∀env x,foldedSetIterable iter env x=pure x) aK):WS c (.Assign [.Name y py] (.ListComp elt [⟨.Name x px,iter,[ct],0⟩] sc pos) spos::rest) K vals own:=WS.asgC (some ct) h rfl hcp hsw hy hclos hcell hkind hnames hx hs
end
section
variable {W:Wd} {I:Info} {r:Nat} {c:Cx W I r} {vals vals':Vs} {own own':Ow}
noncomputable def kAndV (c:Cx W I r) (es:List Expr) (p:Pos) (K:KV):KV:=λ m vals own=>∃b,m = .bool b/\(match b with | true=>WE c (.BoolOp .And es p) K vals own | false=>K (.bool false) vals own)
noncomputable def kOrV (c:Cx W I r) (es:List Expr) (p:Pos) (K:KV):KV:=λ m vals own=>∃b,m = .bool b/\(match b with | true=>K (.bool true) vals own | false=>WE c (.BoolOp .Or es p) K vals own)
theorem kAndV.t {es:List Expr} {p:Pos} {K:KV} (h:WE c (.BoolOp .And es p) K vals own):kAndV c es p K (.bool true) vals own:=⟨true,rfl,h⟩
theorem kAndV.f {es:List Expr} {p:Pos} {K:KV} (h:K (.bool false) vals own):kAndV c es p K (.bool false) vals own:=⟨false,rfl,h⟩
theorem kOrV.t {es:List Expr} {p:Pos} {K:KV} (h:K (.bool true) vals own):kOrV c es p K (.bool true) vals own:=⟨true,rfl,h⟩
theorem kOrV.f {es:List Expr} {p:Pos} {K:KV} (h:WE c (.BoolOp .Or es p) K vals own):kOrV c es p K (.bool false) vals own:=⟨false,rfl,h⟩
theorem WE.bop1 {op:BoolOp} {e:Expr} {p:Pos} {K:KV} (h:WE c e K vals own):WE c (.BoolOp op [e] p) K vals own:=λ s vs ms Q a hQ=>BoolOp_one (h s vs ms Q a hQ)
theorem WE.andV {e e2:Expr} {rest:List Expr} {p:Pos} {K:KV} (h:WE c e (kAndV c (e2::rest) p K) vals own):WE c (.BoolOp .And (e::e2::rest) p) K vals own:=by
 intro s vs ms Q a hQ
 refine BoolOp_and (h s vs ms _ a λ v mv s' vals' own' hk a'=>?_)
 obtain ⟨b,rfl,hk⟩:=hk
 obtain ⟨N,hi⟩:=a'.inv
 revert a'
 refine hi.boolE λ a'=>?_
 refine wpAny_truthy_bool ?_
 induction b with
 | true=>exact hk s' vs ms Q a'.drop hQ
 | false=>exact hQ _ _ _ _ _ hk a'
theorem WE.orV {e e2:Expr} {rest:List Expr} {p:Pos} {K:KV} (h:WE c e (kOrV c (e2::rest) p K) vals own):WE c (.BoolOp .Or (e::e2::rest) p) K vals own:=by
 intro s vs ms Q a hQ
 refine BoolOp_or (h s vs ms _ a λ v mv s' vals' own' hk a'=>?_)
 obtain ⟨b,rfl,hk⟩:=hk
 obtain ⟨N,hi⟩:=a'.inv
 revert a'
 refine hi.boolE λ a'=>?_
 refine wpAny_truthy_bool ?_
 induction b with
 | true=>exact hQ _ _ _ _ _ hk a'
 | false=>exact hk s' vs ms Q a'.drop hQ
theorem kNotV.f {K:KV} (h:K (.bool true) vals own):kNotV K (.bool false) vals own:=⟨false,rfl,h⟩
noncomputable def kCh2 (c:Cx W I r) (m1:MV) (op:CmpOp) (e:Expr) (K:KB):KV:=λ m2 vals own=>∃i j,m1 = .int i/\m2 = .int j/\(if i<=j then WE c e (kC2 c op m2 (kTruth K)) vals own else K false vals own)
noncomputable abbrev kCh1 (c:Cx W I r) (mid:Expr) (op:CmpOp) (e:Expr) (K:KB):KV:=λ m1 vals own=>WE c mid (kCh2 c m1 op e K) vals own
theorem kCh2.t {e:Expr} {op:CmpOp} {K:KB} {i j:Int} (hij:i<=j) (h:WE c e (kC2 c op (.int j) (kTruth K)) vals own):kCh2 c (.int i) op e K (.int j) vals own:=⟨i,j,rfl,rfl,by rw [if_pos hij];exact h⟩
theorem WT.chain {l mid e:Expr} {op:CmpOp} {p:Pos} {K:KB} (h:WE c l (kCh1 c mid op e K) vals own) (hm:autoParam (lastMarks [.LtE,op] [mid,e]=false) aK):WT c (.Compare l [.LtE,op] [mid,e] p) K vals own:=by
 revert c;ctx_has W I r vals own l mid e op p K
 ctx_has c
 intro s vs ms Q a hQ
 refine isTrue_chain (h s vs ms _ a λ v1 m1 s1 vals1 own1 hk a1=>?_) hm
 refine test_link (hk s1 _ _ _ a1 λ v2 m2 s2 vals2 own2 hk2 a2=>?_)
 obtain ⟨i,j,rfl,rfl,hk2⟩:=hk2
 refine Cx.AtI.el2 a2 λ g tk m cm ob cel frz S q2 q1 hv=>?_
 refine q1.intE λ t=>?_
 refine q2.intE λ u=>?_
 refine PyProof.Rows.le_int (wpAny_truthy_bool ?_)
 by_cases hij:i<=j
 · rw [if_pos hij] at hk2
   rw [decide_eq_true hij,if_pos rfl]
   have a5:c.At {c.s with heap:=g,toks:=tk} vals2 own2 (.int j u::vs) (.int j::ms):=⟨g,tk,m,cm,ob,cel,frz,S,.cons (.int _ _) hv⟩
   refine test_last (r:=eval e c.env) ?_
   refine hk2 _ _ _ _ a5 λ v3 m3 s3 vals3 own3 hk3 a3=>?_
   refine hk3 _ _ s3 vs ms _ a3 λ v4 m4 s4 vals4 own4 hk4 a4=>?_
   obtain ⟨b,rfl,hb⟩:=hk4
   obtain ⟨N,hi⟩:=a4.inv
   refine hi.boolE ?_
   exact wpAny_truthy_bool (hQ _ _ _ _ hb a4.drop)
 · rw [if_neg hij] at hk2
   rw [decide_eq_false hij,if_neg (by decide)]
   exact hQ _ _ _ _ hk2 ⟨g,tk,m,cm,ob,cel,frz,S,hv⟩
theorem kB2.add {a b:Int} {K:KV} (h:K (.int (a+b)) vals own):kB2 c .Add (.int a) K (.int b) vals own:=O2.mk h λ N v1 v2 A E s Q h1 h2 q=>by
 refine h1.intE λ t=>?_;refine h2.intE λ u=>?_;exact PyProof.Rows.add_int (q _ _ λ zz=>.int _ _)
theorem kB2.sub {a b:Int} {K:KV} (h:K (.int (a - b)) vals own):kB2 c .Sub (.int a) K (.int b) vals own:=O2.mk h λ N v1 v2 A E s Q h1 h2 q=>by
 refine h1.intE λ t=>?_;refine h2.intE λ u=>?_;exact PyProof.Rows.sub_int (q _ _ λ zz=>.int _ _)
theorem kB2.mul {a b:Int} {K:KV} (hm:IntMulOk a b) (h:K (.int (a * b)) vals own):kB2 c .Mult (.int a) K (.int b) vals own:=O2.mk h λ N v1 v2 A E s Q h1 h2 q=>by
 refine h1.intE λ t=>?_;refine h2.intE λ u=>?_;exact PyProof.Rows.mul_int (q _ _ λ zz=>.int _ _) hm
theorem kB2.mod {a b:Int} {K:KV} (hb:b≠0) (h:K (.int (a.fmod b)) vals own):kB2 c .Mod (.int a) K (.int b) vals own:=O2.mk h λ N v1 v2 A E s Q h1 h2 q=>by
 refine h1.intE λ t=>?_;refine h2.intE λ u=>?_;exact PyProof.Rows.mod_int hb (q _ _ λ zz=>.int _ _)
theorem kB2.div {a b:Int} {K:KV} (hb:b≠0) (hp:Builtin.divisionGoesByPylong a b=false) (h:K (.int (a.fdiv b)) vals own):kB2 c .FloorDiv (.int a) K (.int b) vals own:=O2.mk h λ N v1 v2 A E s Q h1 h2 q=>by
 refine h1.intE λ t=>?_;refine h2.intE λ u=>?_;exact PyProof.Rows.floordiv_int hb (q _ _ λ zz=>.int _ _) (.inl hp)
theorem eqNilT {prog:Program} {w:World} {A:Around} {E:Value->Shared->Prop} {s:Shared} {h₀:Heap} {L D:Addr} {news:Lg} {n:Nat} {vs:List Value} {d:Addr} {k:Nat} {b:Bool} {Q:Value->Shared->Prop} (N:News h₀ L s.heap news) (hm:(D,tupO vs n)∈news) (hd:(d,tupO [] k)∈news) (hu:A.units < cLine) (hb:vs.isEmpty=b)
 (h:Q (.bool b) s):wpAny (model prog w) A (compareOp .Eq (.ref D) (.ref d)) Q E s:=by
 have h1:s.heap.IsTuple D vs.toArray:=⟨_,(N _ hm).1,rfl,n,rfl⟩
 have h2:s.heap.IsTuple d #[]:=⟨_,(N _ hd).1,rfl,k,rfl⟩
 refine SeqAt.eq_tupleAt (e:=λ zz=>true) h1 h2 hu (λ j h1 h2=>absurd h2 (by simp_all)) ?_
 cases vs with
 | nil=>subst hb;exact h
 | cons x r=>subst hb;exact h
theorem kC2.eqNT {l:List MV} {K:KV} {b:Bool} (e:l.isEmpty=b) (h:K (.bool b) vals own):kC2 c .Eq (.tup l) K (.tup []) vals own:=by
 intro v iv s vs ms Q a hQ
 refine Cx.AtI.el2 a λ g tk m1 cm ob cel frz S h1 h2 hv=>?_
 refine tup_el h2 λ a us k q1 q2=>?_
 refine tup_el h1 λ d us2 k2 q3 q4=>?_
 cases q4
 have hu:=S.k.hu
 refine eqNilT S.N (cmem_frz q1) (k:=k2) (cmem_frz q3) (by show c.un < cLine;lia) (b:=b) ?_ (hQ _ _ _ _ _ h ⟨g,tk,m1,cm,ob,cel,frz,S,.cons (.bool _) hv⟩)
 rw [←e];cases q2 <;> rfl
theorem seqIdx_last (n:Nat):seqIndex? (-1) (n+1)=some n:=by
 unfold seqIndex?
 simp
 simp+arith
noncomputable def SbI (slice:Expr) (i:Int):Prop:=∀a u,subscripted slice false (.ref a) (.int i u)=operate [.ref a,.int i u] (getItem (.ref a) (.int i u))
theorem kSb2.lastT {value slice:Expr} {l:List MV} {mv:MV} {K:KV} (h:K mv vals own) (hs:autoParam (SbI slice (-1)) aK):kSb2 c value slice (.tup (l++[mv])) K (.int (-1)) vals own:=by
 intro v iv s vs ms Q a hQ
 refine Cx.AtI.el2 a λ g tk m cm ob cel frz S h1 h2 hv=>?_
 refine h1.intE λ t=>?_
 refine tup_el h2 λ d us k q1 q2=>?_
 refine E2_3 (q2.snoc) λ vs' x e4_2 q3 q4=>?_;subst e4_2
 exact kba_turn (value':=anyName) (λ zz=>rfl) (item_tupleL (value:=anyName) (l:=vs'++[x]) ⟨_,(S.N _ (cmem_frz q1)).1,rfl,k,rfl⟩ (by decide) (by decide) (by rw [length_append];exact seqIdx_last _) (by grind) (hQ _ _ _ _ _ h ⟨g,tk,m,cm,ob,cel,frz,S,.cons q4 hv⟩) (hs _ _) (λ zz=>rfl))
theorem eqPair {prog:Program} {w:World} {A:Around} {E:Value->Shared->Prop} {s:Shared} {h₀:Heap} {L:Addr} {news:Lg} {a b:Addr} {n n':Int} {t u t' u':Tok} {k k':Nat} {Q:Value->Shared->Prop} (N:News h₀ L s.heap news) (ha:(a,tupO [.int n t,.int 0 u] k)∈news) (hb:(b,tupO [.int n' t',.int 0 u'] k')∈news) (hu:A.units < cLine)
 (h:Q (.bool (decide (n=n'))) s):wpAny (model prog w) A (compareOp .Eq (.ref a) (.ref b)) Q E s:=by
 have h1:s.heap.IsTuple a #[.int n t,.int 0 u]:=⟨_,(N _ ha).1,rfl,k,rfl⟩
 have h2:s.heap.IsTuple b #[.int n' t',.int 0 u']:=⟨_,(N _ hb).1,rfl,k',rfl⟩
 refine SeqAt.eq_tupleAt (e:=λ j=>if j=0 then n == n' else true) h1 h2 hu (λ j h1 h2=>?_) ?_
 · rcases j with _ | _ | j
   · exact SeqAt.EqAt.int_int _ _ _ _
   · exact SeqAt.EqAt.int_int _ _ _ _
   · exact absurd h1 (Nat.not_lt.mpr (Nat.le_add_left 2 j))
 · by_cases e:n=n'
   · subst e;simpa [List.range,List.range.loop] using h
   · have e2:(n == n')=false:=by simpa using e
     simpa [List.range,List.range.loop,e,e2] using h
theorem pair_open {w:World} {N:Lg} {v:Value} {n:Int} (h:MIn w N v (.tup [.int n,.int 0])):∃a t u k,v = .ref a/\(a,tupO [.int n t,.int 0 u] k)∈N:=by
 refine tup_el h λ a us k h1 h2=>?_
 revert h1
 refine h2.in2 λ x y h3 h4=>?_
 refine h3.intE λ t=>?_
 refine h4.intE λ u h1=>?_
 exact ⟨_,t,u,_,rfl,h1⟩
theorem kC2.eqP {n n':Int} {K:KV} {b:Bool} (e:decide (n=n')=b) (h:K (.bool b) vals own):kC2 c .Eq (.tup [.int n,.int 0]) K (.tup [.int n',.int 0]) vals own:=by
 intro v iv s vs ms Q a hQ
 refine Cx.AtI.el2 a λ g tk m1 cm ob cel frz S h1 h2 hv=>?_
 refine E4_2 (pair_open h2) λ a t u k e5_4 q1=>?_;subst e5_4
 refine E4_2 (pair_open h1) λ d t' u' k' e6_4 q2=>?_;subst e6_4
 have hu:=S.k.hu
 exact eqPair S.N (cmem_frz q1) (cmem_frz q2) (by show c.un < cLine;lia) (by rw [e];exact hQ _ _ _ _ _ h ⟨g,tk,m1,cm,ob,cel,frz,S,.cons (.bool _) hv⟩)
end
theorem rt_owner:Manifest.owners.lookup (String.ofList ['d','e','s','r','e','v','e','r'].reverse)=some Manifest.sig_reversed:=by kernel_rfl
theorem rt_slot_next:Slot "reversed" "__next__" "reversed.__next__" :=
 .of (owner:="reversed") (n:="__next__") (by rw [typeLookup_type,builtinLookup_eq_fast];kernel_rfl) (by decide+kernel) (by decide+kernel) (by decide+kernel)
  (by first | exact .inl (by decide+kernel) | exact .inr (by decide+kernel)) (by rw [isSubtype_type];kernel_rfl)
theorem rt_entry_next:entryFor table "reversed.__next__"=some Builtin.«reversed.__next__» := entryFor_of_tree (by kernel_rfl)
theorem rt_args_next (a:Value):argsOk "reversed.__next__" ⟨[a],[]⟩:=by
 unfold argsOk;rw [signature?_of (id:="reversed.__next__") (n:=['_','_','t','x','e','n','_','_']) (o:=['d','e','s','r','e','v','e','r']) (by kernel_rfl) rt_owner];kernel_rfl
theorem rt_slot_iter:Slot "reversed" "__iter__" "reversed.__iter__" :=
 .of (owner:="reversed") (n:="__iter__") (by rw [typeLookup_type,builtinLookup_eq_fast];kernel_rfl) (by decide+kernel) (by decide+kernel) (by decide+kernel)
  (by first | exact .inl (by decide+kernel) | exact .inr (by decide+kernel)) (by rw [isSubtype_type];kernel_rfl)
theorem rt_args_iter (a:Value):argsOk "reversed.__iter__" ⟨[a],[]⟩:=by
 unfold argsOk;rw [signature?_of (id:="reversed.__iter__") (n:=['_','_','r','e','t','i','_','_']) (o:=['d','e','s','r','e','v','e','r']) (by kernel_rfl) rt_owner];kernel_rfl
theorem rt_entry_iter:entryFor table "reversed.__iter__"=some Builtin.«dict_keyiterator.__iter__» :=
 entryFor_alias (id':="dict_keyiterator.__iter__") (by kernel_rfl) (by first | rfl | decide+kernel | (unfold String.splitOn;simp+decide [String.splitOnAux])) (by decide+kernel) (by kernel_rfl)
theorem rt_slot_init:Slot "reversed" "__init__" "object.__init__" :=
 .of (owner:="object") (n:="__init__") (by rw [typeLookup_type,builtinLookup_eq_fast];kernel_rfl) (by decide+kernel) (by decide+kernel) (by decide+kernel)
  (by first | exact .inl (by decide+kernel) | exact .inr (by decide+kernel)) (by rw [isSubtype_type];kernel_rfl)
theorem rt_called:TypeCalled "reversed" "reversed.__new__" "object.__init__" :=
 ⟨by decide+kernel,by decide+kernel,⟨_,_,F.mro_reversed⟩,F.made_reversed,by decide+kernel,F.sub_reversed_self,rt_slot_init⟩
noncomputable abbrev rtObj (t:Addr) (i:Int):Obj:={cls:=.type "reversed",data:=.fields #[.ref t,rawInt i]}
theorem rt_lookup_rev:typeLookup (.type "tuple") "__reversed__"=pure none:=by rw [typeLookup_type,builtinLookup_eq_fast];kernel_rfl
theorem rt_lookup_get:typeLookup (.type "tuple") "__getitem__"=pure (some (.builtin "tuple.__getitem__")):=by rw [typeLookup_type,builtinLookup_eq_fast];kernel_rfl
theorem rt_sub:isSubtype (.type "tuple") (.type "dict")=pure false:=by rw [isSubtype_type];kernel_rfl
theorem rt_new (t:Addr) (items:Array Value) (n:Nat) (hz:items.size<=900) :
 Meets (Builtin.«reversed.__new__» ⟨[.type "reversed",.ref t],[]⟩) (λ zz R s=>s.heap.get? t=some {cls:=.type "tuple",data:=.seq items n} /\
  R (.ok (.ret (.ref s.heap.objs.size))) {s with heap:=s.heap.push (rtObj t ((items.size:Int) - 1)),toks:=s.toks+1+1}) :=
 .of_wp λ prog w A R s h=>by
  obtain ⟨hp,g,d,tk,os⟩:=s;obtain ⟨hl,h⟩:=h
  have hL:Heap.IsTuple (Shared.heap ⟨hp,g,d,tk,os⟩) t items:=⟨_,hl,rfl,n,rfl⟩
  have hT:Shared.TypeIs ⟨hp,g,d,tk,os⟩ (.ref t) "tuple":=⟨_,hl,rfl⟩
  unfold Builtin.«reversed.__new__»
  refine wpAny_bind (wpAny_of_eq (newClass_reversed _) ?_)
  try dsimp only
  refine wpAny_bind (wpAny_of_eq (a:=()) (by first | rfl | kernel_rfl) ?_)
  refine wpAny_bind (wpAny_of_eq (a:=()) (by first | rfl | kernel_rfl) ?_)
  try dsimp only
  refine wpAny_bind (wpAny_specialOf hT rt_lookup_rev ?_)
  try dsimp only
  have hsub:=rt_sub
  have hget:=rt_lookup_get
  have hz':((items.size:Nat):Int)<=16384:=by lia
  refine wpAny_bind (wpAny_mono (Q:=λ b s'=>b=true/\s'=(⟨hp,g,d,tk,os⟩:Shared)) ?_ ?_ λ zz zz e=>e)
  · wp_walk
    exact ⟨rfl,rfl⟩
  · rintro b s' ⟨rfl,rfl⟩
    simp only [Bool.not_true,Bool.false_eq_true,if_false]
    refine wpAny_bind (kun_lenT (items:=items) (k:=(items.size:Int)) ⟨_,hl,rfl,n,rfl⟩ rfl hz' ?_)
    wp_walk
    exact ⟨_,rfl,h⟩
theorem rt_call {prog:Program} {w:World} {A:Around} {E:Value->Shared->Prop} {s:Shared} {t:Addr} {vs:List Value} {n:Nat} {Q:Value->Shared->Prop} (ht:s.heap.get? t=some (tupO vs n)) (hz:vs.length<=900)
 (h:Q (.ref s.heap.objs.size) {s with heap:=s.heap.push (rtObj t ((vs.length:Int) - 1)),toks:=s.toks+1+1}):wpAny (model prog w) A (call (.type "reversed") [.ref t]) Q E s:=by
 refine callType_new rt_called (by decide) (F.typeCall_reversed_1 _) (F.newCall_reversed_1 _) (λ obj=>F.args_object_init_2 obj _) F.entry_reversed_new (rt_new t vs.toArray n (by trivial)) ⟨ht,?_⟩
 exact ⟨⟨_,Heap.get?_push_size _ rfl,rfl⟩,by trivial⟩
noncomputable def RtIter (h:Heap) (a t:Addr) (i:Int):Prop:=h.get? a=some (rtObj t i)
section
variable {prog:Program} {w:World} {A:Around} {E:Value->Shared->Prop} {s:Shared}
theorem rt_self {it t:Addr} {i:Int} {Q:Value->Shared->Prop} (hit:RtIter s.heap it t i) (h:Q (.ref it) s):wpAny (model prog w) A (pyIter (.ref it)) Q E s:=by
 have hT:s.TypeIs (.ref it) "reversed":=⟨_,hit,rfl⟩
 refine wpAny_pyIter_slot hT rt_slot_iter (wpAny_call_entry rt_slot_iter hT rt_entry_iter ?_ (rt_args_iter _))
 show wpAny _ _ (ret (.ref it)) _ _ s
 exact wpAny_pure ⟨_,rfl,"reversed",_,hT,rt_slot_next.lookup,h⟩
theorem rt_item {it t:Addr} {i:Nat} {vs:List Value} {n:Nat} {x:Value} {Q:Option Value->Shared->Prop} (hz:vs.length<=900) (hit:RtIter s.heap it t (i:Int)) (hl:s.heap.get? t=some (tupO vs n)) (hx:vs[i]? = some x)
 (hQ:∀h' tk,RtIter h' it t ((i:Int) - 1)->Heap.SameBut it s.heap h'->Q (some x) {s with heap:=h',toks:=tk}):wpAny (model prog w) A (pyNext (.ref it)) Q E s:=by
 have hT:s.TypeIs (.ref it) "reversed":=⟨_,hit,rfl⟩
 have hTt:s.TypeIs (.ref t) "tuple":=⟨_,hl,rfl⟩
 have ho:=hit
 unfold RtIter at ho
 unfold pyNext
 refine wpAny_bind (wpAny_attempt (wpAny_callSpecial?_slot (name:=Str.ofString "__next__") hT rt_slot_next
  (wpAny_call_entry rt_slot_next hT rt_entry_next ?_ (rt_args_next _))))
 unfold Builtin.«reversed.__next__»
 refine wpAny_bind (wpAny_of_eq (a:=(Value.ref it,[])) rfl ?_)
 try dsimp only
 refine wpAny_bind (wpAny_field ho rfl (x:=.ref t) rfl ?_)
 refine wpAny_bind (wpAny_field ho rfl (x:=rawInt (i:Int)) rfl ?_)
 show wpAny _ _ (if (i:Int) < 0 then _ else _) _ _ s
 rw [if_neg (by simp+arith)]
 refine wpAny_bind (wpAny_specialOf hTt rt_lookup_get ?_)
 rw [if_neg (by simp)]
 refine wpAny_bind (wpAny_mkInt ?_)
 have hIT:PyProof.Rows.IsTup s.heap t vs.toArray:=⟨_,hl,rfl,n,rfl⟩
 have hlt:=(List.getElem?_eq_some_iff.mp hx).1
 have hsi:seqIndex? (i:Int) vs.toArray.size=some i:=by unfold seqIndex?;simp;lia
 refine wpAny_bind (wpAny_attempt (getItem_tuple hIT (by exact Int.natCast_nonneg _) (by lia) hsi (by simpa using hx) ?_))
 try dsimp only
 refine wpAny_bind (wpAny_field ho rfl (x:=rawInt (i:Int)) rfl ?_)
 refine wpAny_bind (wpAny_setField ho rfl (by simp) ?_)
 refine wpAny_pure ⟨x,rfl,wpAny_pure (hQ _ _ ?_ (Heap.SameBut.update ..))⟩
 show Heap.get? _ _=_
 rw [Heap.get?_update_self _ ho (Obj.isFreed_of_fields (Obj.data_mapFields rfl _))]
 trivial
theorem rt_end {it t:Addr} {Q:Option Value->Shared->Prop} (hh:A.handled=none) (hit:RtIter s.heap it t (-1))
 (hQ:∀h' tk,Heap.ExtBut it s.heap h'->Q none {s with heap:=h',toks:=tk}):wpAny (model prog w) A (pyNext (.ref it)) Q E s:=by
 have hT:s.TypeIs (.ref it) "reversed":=⟨_,hit,rfl⟩
 have ho:=hit
 unfold RtIter at ho
 unfold pyNext
 refine wpAny_bind (wpAny_attempt (wpAny_callSpecial?_slot (name:=Str.ofString "__next__") hT rt_slot_next
  (wpAny_call_entry rt_slot_next hT rt_entry_next ?_ (rt_args_next _))))
 unfold Builtin.«reversed.__next__»
 refine wpAny_bind (wpAny_of_eq (a:=(Value.ref it,[])) rfl ?_)
 try dsimp only
 refine wpAny_bind (wpAny_field ho rfl (x:=.ref t) rfl ?_)
 refine wpAny_bind (wpAny_field ho rfl (x:=rawInt (-1)) rfl ?_)
 show wpAny _ _ (if (-1:Int) < 0 then _ else _) _ _ s
 rw [if_pos (by decide)]
 refine wpAny_bind (wpAny_rule ?_)
 refine wpAny_bind ?_
 show wpAny _ _ (setField (.ref it) 1 (rawInt (-1)) >>= λ zz=>setField (.ref it) 0 .none) _ _ s
 refine wpAny_bind (wpAny_setField ho rfl (by simp) ?_)
 have ho2:(s.heap.update it (λ o=>o.mapFields λ a=>a.setIfInBounds 1 (rawInt (-1)))).get? it=some (rtObj t (-1)):=by
  rw [Heap.get?_update_self _ ho (Obj.isFreed_of_fields (Obj.data_mapFields rfl _))]
  trivial
 refine wpAny_setField ho2 rfl (by simp) ?_
 first
 | show wpAny _ _ (newExc (.type "StopIteration") [] >>= _) _ _ _
 | (refine wpAny_bind ?_;show wpAny _ _ (newExc (.type "StopIteration") [] >>= _) _ _ _)
 refine wpAny_bind ?_
 simp only [newExc,newTuple]
 refine wpAny_bind (wpAny_newObj_type ?_ (by size_fits))
 refine wpAny_bind (m:=firstArgMember _ _) (wpAny_of_eq (a:=Value.none) (by first | rfl | (simp only [firstArgMember];rfl)) ?_)
 refine wpAny_newObj_type ?_ (by size_fits)
 simp only [raiseNew]
 refine wpAny_bind (wpAny_handled ?_)
 first | rw [show A.in1.handled=none from hh] | rw [hh]
 refine wpAny_bind (wpAny_pure (wpAny_throw ?_))
 refine wpAny_bind (wpAny_isInstance (T:="StopIteration") (b:=true) ⟨_,Heap.get?_push_size _ rfl,rfl⟩ isSubtype_stop ?_)
 exact wpAny_pure (hQ _ _ λ b o hb eo=>Heap.get?_push_of_some _ (Heap.get?_push_of_some _ (((Heap.SameBut.update ..).2 b hb).trans (((Heap.SameBut.update ..).2 b hb).trans eo))))
end
theorem rt_walks {prog:Program} {w:World} {A:Around} (hh:A.handled=none) (I t:Addr) (hne:t≠I) (vs:List Value) (n:Nat) (hz:vs.length<=900) :
 Walks prog w A I [I,t] [I] vs.length (λ i v=>vs.reverse[i]? = some v) (λ i h=>i<=vs.length/\RtIter h I t ((vs.length:Int) - 1 - (i:Int))/\h.get? t=some (tupO vs n)) where
 sub:=λ b hb=>by simp at hb;simp [hb]
 frame:=λ zz zz zz x hk=>⟨x.1,hk I (by simp) _ x.2.1,hk t (by simp) _ x.2.2⟩
 item:=λ i s Q E hi x hQ=>by
  have e:(vs.length:Int) - 1 - (i:Int)=((vs.length - 1 - i:Nat):Int):=by omega
  have hit:=x.2.1
  rw [e] at hit
  have hx:vs[vs.length - 1 - i]? = some (vs[vs.length - 1 - i]'(by omega)):=List.getElem?_eq_getElem (by omega)
  refine rt_item hz hit x.2.2 hx λ h' tk hit' hs'=>?_
  have e2:((vs.length - 1 - i:Nat):Int) - 1=(vs.length:Int) - 1 - ((i+1:Nat):Int):=by omega
  rw [e2] at hit'
  exact hQ _ h' tk (by rw [List.getElem?_reverse hi];exact hx) ⟨hi,hit',(hs'.2 t hne).trans x.2.2⟩ λ b o hb eo=>hs'.extBut b o (λ h=>hb (by simp [h])) eo
 done:=λ s Q E x hQ=>by
  have e:(vs.length:Int) - 1 - (vs.length:Int) = -1:=by simp+arith
  have hit:=x.2.1
  rw [e] at hit
  exact rt_end hh hit λ h' tk he'=>hQ h' tk λ b o hb eo=>he' b o (λ h=>hb (by simp [h])) eo
 self:=λ zz zz zz zz x hQ=>rt_self x.2.1 hQ
section
variable {prog:Program} {w:World} {A:Around} {E:Value->Shared->Prop} {s:Shared} {env:Env} {h₀:Heap} {x:Str} {body:List Stmt} {Q:Flow->Shared->Prop}
theorem loop_revT {t I:Addr} {vs:List Value} {k:Nat} {m₀:Str->Option Value} {news nw:Lg} (J:Nat->(Str->Option Value)->Lg->Prop)
 (hh:A.handled=none) (hz:vs.length<=900) (hI:(I,rtObj t ((vs.length:Int) - 1))∈nw) (hl:(t,tupO vs k)∈news) (F:Fr h₀ env.locals s.heap m₀) (N0:News h₀ env.locals s.heap nw) (hsub:∀p∈news,p∈nw) (offI:∀p∈news,p.1 < I) (hj:J 0 m₀ news)
 (keep:∀i m nx,J i m nx->(t,tupO vs k)∈nx)
 (turn:∀i v m₁ nx h tk own,vs.reverse[i]? = some v->OwnOff own (nx.map (λ zz=>zz.1))->J i m₁ nx->Fr h₀ env.locals h (λ y=>if y=x then some v else m₁ y)->News h₀ env.locals h (nx++own) ->
  wpAny (model prog w) A (execs body env) (InvPostG h₀ env.locals (J (i+1)) own {s with heap:=h,toks:=tk} Q) E {s with heap:=h,toks:=tk})
 (done:∀m₁ nx h tk,J vs.length m₁ nx->Fr h₀ env.locals h m₁->News h₀ env.locals h nx->Q .next {s with heap:=h,toks:=tk}) :
 wpAny (model prog w) A (pyIter (.ref I)) (λ it s₂=>LoopAtV prog w A h₀ env x body Q E it s₂) E s:=by
 have N:News h₀ env.locals s.heap news:=λ p hp=>N0 p (hsub p hp)
 have hIx:=N0 _ hI
 have hol:s.heap.get? t=some (tupO vs k):=(N _ hl).1
 have hne:t≠I:=Nat.ne_of_lt (offI _ hl)
 refine rt_self hIx.1 ?_
 have W:=rt_walks (prog:=prog) (w:=w) hh I t hne vs k hz
 exact loop_seq J W (λ i h st=>⟨_,st.2.1⟩) hIx.2.2 (Ne.symm hIx.2.1) (Ne.symm (N _ hl).2.1) ⟨Nat.zero_le _,by have q:=hIx.1;simpa [RtIter] using q,hol⟩ F
  N (λ p hp=>Nat.ne_of_lt (offI p hp)) hj (λ i m nx h=>.inl (keep i m nx h)) (λ i v m₁ nx h tk own hi hP ho hJ F₁ N₁=>turn i v m₁ nx h tk own hP ho hJ F₁ N₁) done
end
section
variable {prog:Program} {w:World} {A:Around} {E:Value->Shared->Prop} {s:Shared} {h₀:Heap} {L:Addr} {m:Str->Option Value} {news:Lg} {Q:Value->Shared->Prop}
theorem reversedT {t:Addr} {vs:List Value} {k:Nat} (F:Fr h₀ L s.heap m) (N:News h₀ L s.heap news) (hm:(t,tupO vs k)∈news) (hz:vs.length<=900)
 (h:∀D h' tk,Fr h₀ L h' m->News h₀ L h' ((D,rtObj t ((vs.length:Int) - 1))::news)->(∀p∈news,p.1 < D)->Q (.ref D) {s with heap:=h',toks:=tk}):wpAny (model prog w) A (call (.type "reversed") [.ref t]) Q E s :=
 rt_call (N _ hm).1 hz (h _ _ _ (F.push _) (News.push F N _ rfl) λ p hp=>Heap.lt_size (N p hp).1)
end
section
variable {prog:Program} {w:World} {A:Around} {E:Value->Shared->Prop} {s:Shared} {env:Env} {h₀:Heap} {x:Str} {body:List Stmt} {Q:Flow->Shared->Prop}
end
section
variable {prog:Program} {w:World} {A:Around} {E:Value->Shared->Prop} {s:Shared} {h₀:Heap} {L:Addr} {news:Lg} {Q:Value->Shared->Prop}
theorem nePair {a b:Addr} {n n':Int} {t u t' u':Tok} {k k':Nat} (N:News h₀ L s.heap news) (ha:(a,tupO [.int n t,.int 0 u] k)∈news) (hb:(b,tupO [.int n' t',.int 0 u'] k')∈news) (hu:A.units < cLine)
 (h:Q (.bool (!decide (n=n'))) s):wpAny (model prog w) A (compareOp .NotEq (.ref a) (.ref b)) Q E s:=by
 have h1:s.heap.IsTuple a #[.int n t,.int 0 u]:=⟨_,(N _ ha).1,rfl,k,rfl⟩
 have h2:s.heap.IsTuple b #[.int n' t',.int 0 u']:=⟨_,(N _ hb).1,rfl,k',rfl⟩
 refine SeqAt.RcNeAt.tuples (e:=λ j=>if j=0 then n == n' else true) h1 h2 hu (λ j h1 h2=>?_) prog w E Q ?_
 · match j,h1 with
   | 0,_=>exact SeqAt.EqAt.int_int _ _ _ _
   | 1,_=>exact SeqAt.EqAt.int_int _ _ _ _
 · by_cases e:n=n'
   · subst e;simpa [List.range,List.range.loop] using h
   · have e2:(n == n')=false:=by simpa using e
     simpa [List.range,List.range.loop,e,e2] using h
theorem itemL {value slice:Expr} {l:Addr} {vs:List Value} {k i:Nat} {u:Tok} {v:Value} (N:News h₀ L s.heap news) (hm:(l,listOf vs.toArray k)∈news) (hv:vs[i]? = some v) (hz:vs.length<=900) (h:Q v s)
 (hs:autoParam (subscripted slice false (.ref l) (.int (i:Int) u)=operate [.ref l,.int (i:Int) u] (getItem (.ref l) (.int (i:Int) u))) aK) (hg:∀r,letTemporaryGo value (.ref l) r=pure ():=by intro zz;with_unfolding_all rfl) :
 wpAny (model prog w) A (subscriptTail value slice (.ref l) (.int (i:Int) u)) Q E s:=by
 have hl:s.heap.IsList l vs.toArray:=⟨_,(N _ hm).1,rfl,k,rfl⟩
 have hi:=(List.getElem?_eq_some_iff.mp hv).1
 exact subscriptTail_builtin hl.typeIs slot_list_getitem.lookup (wpAny_getItem_list hl (by exact Int.natCast_nonneg _) (by lia) (by simpa using hv) h) hs hg
theorem itemT {value slice:Expr} {l:Addr} {vs:List Value} {k i:Nat} {u:Tok} {v:Value} (N:News h₀ L s.heap news) (hm:(l,tupO vs k)∈news) (hv:vs[i]? = some v) (hz:vs.length<=900) (h:Q v s)
 (hs:autoParam (subscripted slice false (.ref l) (.int (i:Int) u)=operate [.ref l,.int (i:Int) u] (getItem (.ref l) (.int (i:Int) u))) aK) (hg:∀r,letTemporaryGo value (.ref l) r=pure ():=by intro zz;with_unfolding_all rfl) :
 wpAny (model prog w) A (subscriptTail value slice (.ref l) (.int (i:Int) u)) Q E s:=by
 have hi:=(List.getElem?_eq_some_iff.mp hv).1
 exact item_tupleL (l:=vs) ⟨_,(N _ hm).1,rfl,k,rfl⟩ (by exact Int.natCast_nonneg _) (by lia) (by unfold seqIndex?;simp;lia) hv h hs hg
theorem neNilL {D d:Addr} {vs:List Value} {k k':Nat} {b:Bool} (N:News h₀ L s.heap news) (hm:(D,listOf vs.toArray k)∈news) (hd:(d,listOf [].toArray k')∈news) (hu:A.units < cLine) (hb:vs.isEmpty=b)
 (h:Q (.bool (!b)) s):wpAny (model prog w) A (compareOp .NotEq (.ref D) (.ref d)) Q E s:=by
 have h1:s.heap.IsList D vs.toArray:=⟨_,(N _ hm).1,rfl,k,rfl⟩
 have h2:s.heap.IsList d #[]:=⟨_,(N _ hd).1,rfl,k',rfl⟩
 cases vs with
 | nil =>
  subst hb
  refine SeqAt.RcNeAt.lists (e:=λ zz=>true) h1 h2 rfl hu (λ j h1 h2=>absurd h2 (by simp)) prog w E Q ?_
  exact h
 | cons x r =>
  subst hb
  exact SeqAt.RcNeAt.lists_lengths h1 h2 (by trivial) hu prog w E Q h
end
section
variable {W:Wd} {I:Info} {r:Nat} {c:Cx W I r} {vals vals':Vs} {own own':Ow}
theorem kRev.tup {x:Str} {body:List Stmt} {K:KS} {l:List MV} (J:Nat->Vs->Ow->Prop) (h0:J 0 vals own)
 (turn:∀ (c':Cx W I r) i m vals own,l.reverse[i]? = some m->J i vals own->∃vals',Nt I.names vals x false m vals'/\WS c' body (kTurn J i K) vals' own) (done:∀vals own,J l.length vals own->K .nx vals own) (hz:l.length<=900) (hcp:autoParam (I.cp=none) aR) (hhb:autoParam (I.hb=false) aR) :
 kRev c x body K (.tup l) vals own:=by
 intro v s Q a hQ
 refine Cx.AtI.el1 a λ g tk m cm ob cel frz S hi hv=>?_
 refine tup_el hi λ l0 us k hm ha=>?_
 have hl:=ha.length
 have he:(c.more [] frz).env.locals=c.L:=by unfold Cx.env cEnv;rw [hcp];rfl
 have hm':(l0,tupO us k)∈c.all ob cel frz:=cmem_frz hm
 refine reversedT S.F S.N hm' (by simp+arith [*]) λ D h' tk' F' N' lt=>?_
 refine for_core (c:=c.more [] frz) (l:=l.reverse) (Src:=[(l0,tupO us k)]) (Rel:=λ i v=>us.reverse[i]? = some v) J hcp hhb h0 (λ c' i m v o zz=>turn c' i m v o) done (S.s0.st F' (News.sub N' λ p hp=>.tail _ hp)).fixed (hQ.less hcp hhb S.fx) (λ p hp=>by rw [mem_singleton.mp hp];exact mem_append_right _ hm) (λ i v h=>ha.reverse.at h) λ J' hj keep turn' done'=>?_
 rw [←ha.length] at done'
 exact loop_revT (nw:=(D,rtObj l0 ((us.length:Int) - 1))::c.all ob cel frz) J' (S.k.hhb hhb) (by simp+arith [*]) (.head _) hm' (by rw [he];exact F') (by rw [he];exact N') (λ p hp=>.tail _ hp) lt hj (λ i m nx h=>keep i m nx h _ (.head _)) turn' done'
theorem kC2.neP {n n':Int} {K:KV} {b:Bool} (e:(!decide (n=n'))=b) (h:K (.bool b) vals own):kC2 c .NotEq (.tup [.int n,.int 0]) K (.tup [.int n',.int 0]) vals own:=by
 intro v iv s vs ms Q a hQ
 refine Cx.AtI.el2 a λ g tk m1 cm ob cel frz S h1 h2 hv=>?_
 refine E4_2 (pair_open h2) λ a t u k e0_4 q1=>?_;subst e0_4
 refine E4_2 (pair_open h1) λ d t' u' k' e1_4 q2=>?_;subst e1_4
 have hu:=S.k.hu
 exact nePair S.N (cmem_frz q1) (cmem_frz q2) (by show c.un < cLine;lia) (by rw [e];exact hQ _ _ _ _ _ h ⟨g,tk,m1,cm,ob,cel,frz,S,.cons (.bool _) hv⟩)
theorem kC2.neNilL {m:MV} {l:List MV} {K:KV} {b:Bool} (R:RdL own m l) (e:(!l.isEmpty)=b) (h:K (.bool b) vals own):kC2 c .NotEq m K (.lst []) vals own:=by
 intro v iv s vs ms Q a hQ
 refine Cx.AtI.el2 a λ g tk m1 cm ob cel frz S h1 h2 hv=>?_
 refine R.el S h2 λ a us k q1 q2=>?_
 refine lst_el h1 λ d us2 k2 q3 q4=>?_
 cases q4
 have hu:=S.k.hu
 refine Mine.neNilL S.N q1 (k':=k2) (cmem_frz q3) (by show c.un < cLine;lia) (b := !b) ?_ (by rw [Bool.not_not];exact hQ _ _ _ _ _ h ⟨g,tk,m1,cm,ob,cel,frz,S,.cons (.bool _) hv⟩)
 rw [←e];cases q2 <;> rfl
theorem kSb2.itL {value slice:Expr} {m mv:MV} {l:List MV} {i:Nat} {x:Int} {K:KV} (R:RdL own m l) (hx:x=(i:Int)) (e:l[i]? = some mv) (hz:l.length<=900) (h:K mv vals own) (hs:∀x,SbI slice x:=by with_unfolding_all exact λ zz zz zz=>rfl):kSb2 c value slice m K (.int x) vals own:=by
 subst hx
 intro v iv s vs ms Q a hQ
 refine Cx.AtI.el2 a λ g tk m cm ob cel frz S h1 h2 hv=>?_
 refine h1.intE λ t=>?_
 refine R.el S h2 λ d us k q1 q2=>?_
 refine E1_2 (q2.to e) λ u q3 q4=>?_
 exact kba_turn (value':=anyName) (λ zz=>rfl) (itemL (value:=anyName) S.N q1 q3 (by rw [q2.length];exact hz) (hQ _ _ _ _ _ h ⟨g,tk,m,cm,ob,cel,frz,S,.cons q4 hv⟩) (hs _ _ _) (λ zz=>rfl))
theorem kSb2.itT {value slice:Expr} {mv:MV} {l:List MV} {i:Nat} {x:Int} {K:KV} (hx:x=(i:Int)) (e:l[i]? = some mv) (hz:l.length<=900) (h:K mv vals own) (hs:∀x,SbI slice x:=by with_unfolding_all exact λ zz zz zz=>rfl):kSb2 c value slice (.tup l) K (.int x) vals own:=by
 subst hx
 intro v iv s vs ms Q a hQ
 refine Cx.AtI.el2 a λ g tk m cm ob cel frz S h1 h2 hv=>?_
 refine h1.intE λ t=>?_
 refine tup_el h2 λ d us k q1 q2=>?_
 refine E1_2 (q2.to e) λ u q3 q4=>?_
 exact kba_turn (value':=anyName) (λ zz=>rfl) (itemT (value:=anyName) S.N (cmem_frz q1) q3 (by rw [q2.length];exact hz) (hQ _ _ _ _ _ h ⟨g,tk,m,cm,ob,cel,frz,S,.cons q4 hv⟩) (hs _ _ _) (λ zz=>rfl))
end
section
variable {W:Wd} {I:Info} {r:Nat} {c:Cx W I r} {vals vals':Vs} {own own':Ow}
noncomputable def kD1 (d:Addr) (xs:List (Str×MV)) (k:Str) (K:KV):KV:=λ m vals own=>∃own',Up own d (.dct []) (.dct (xs++[(k,m)])) own'/\K (.ptr d) vals own'
noncomputable abbrev kD2 (c:Cx W I r) (d:Addr) (k1:Str) (k2:Str) (e2:Expr) (K:KV):KV:=λ m vals own=>WE c e2 (kD1 d [(k1,m)] k2 K) vals own
theorem kD1.mk {d:Addr} {xs:List (Str×MV)} {k:Str} {K:KV} {m:MV} (u:Up own d (.dct []) (.dct (xs++[(k,m)])) own') (h:K (.ptr d) vals own'):kD1 d xs k K m vals own:=⟨own',u,h⟩
theorem WE.strAt {i:Str} {k:Nat} {p:Pos} {s:Shared} {vs:List Value} {ms:List MV} {Q:Value->Shared->Prop} (a:c.At s vals own vs ms) (h:∀t s',c.At s' vals own vs ms->Q (.str i t) s'):wpAny (model PG W.w) c.A (eval (.Constant (.str i) k p) c.env) Q c.E s :=
 wpAny_Constant_str (h _ _ a.tok)
theorem dct_done {d:Addr} {xs:List (Str×MV)} {K:KV} {vs:List Value} {ms:List MV} {Q:Value->Shared->Prop} {ps:List (Value×Value)} {pv:List (Str×Value)} (u:Up own d (.dct []) (.dct xs) own') (h:K (.ptr d) vals own') (hp:strPairs ps=pv) (hk:allStrKeys ps=true) (hn:(pv.map (λ zz=>zz.1)).Nodup)
 {g:Heap} {tk:Nat} {m cm:Str->Option Value} {ob cel frz:Lg} (S:c.St g m cm ob cel frz vals own) (hx:MKv W.w frz pv xs) (hv:MAll W.w frz vs ms) (hQ:c.PV K vs ms Q):KdnMade PG W.w (PySem.strKind PG W.w) d Q ps {c.s with heap:=g,toks:=tk}:=by
 refine S.eUp u λ pre o post S q1 q2=>q1.dctE λ pvs lo hd hk0=>?_
 revert hd
 refine hk0.nl λ hd=>?_
 refine kdn_made_str S.F S.N S.updF hd hk (by rw [hp];exact hn) λ h' o' F' N' hd'=>?_
 rw [hp] at hd'
 exact hQ _ _ _ _ _ h ⟨h',_,m,cm,_,cel,frz,S.set F' N' (q2 o' (.dct lo hd' hx)),.cons (.ptr _) hv⟩
theorem WE.dct1 {k:Str} {n:Nat} {e:Expr} {p p':Pos} {K:KV} (h:∀d,WE c e (kD1 d [] k K) vals ((d,.dct [])::own)):WE c (.Dict [some (.Constant (.str k) n p')] [e] p) K vals own:=by
 intro s vs ms Q a hQ
 refine Cx.AtI.el a λ g tk m cm ob cel frz S hv=>?_
 refine kdn_eval (knd:=PySem.strKind PG W.w) S.F S.N S.k.T.nolimit rfl rfl (List.cons_ne_nil _ _) (Nat.le_of_ble_eq_true rfl) λ d h' o F' N' lt lo hd=>?_
 have a1:c.At {c.s with heap:=h',toks:=tk} vals ((d,.dct [])::own) vs ms:=⟨h',tk,m,cm,_,cel,frz,S.new F' N' (λ q hq=>Nat.ne_of_lt (lt q hq)) (.dct lo hd .nil),hv⟩
 refine pairTrees_cons_walk (WE.strAt a1 λ t s' a2=>h d s' vs ms _ a2 λ v mv s2 vals2 own2 hk a3=>pairTrees_nil_walk ?_)
 refine E1_2 hk λ own3 u hk=>?_
 refine Cx.AtI.el1 a3 λ g tk m cm ob cel frz S h1 hv=>?_
 exact dct_done (pv:=[(k,v)]) u hk rfl rfl (by simp) S (.cons h1 .nil) hv hQ
theorem WE.dct2 {k1 k2:Str} {n1 n2:Nat} {e1 e2:Expr} {p p1 p2:Pos} {K:KV} (h:∀d,WE c e1 (kD2 c d k1 k2 e2 K) vals ((d,.dct [])::own)) (hne:autoParam (k1≠k2) aD):WE c (.Dict [some (.Constant (.str k1) n1 p1),some (.Constant (.str k2) n2 p2)] [e1,e2] p) K vals own:=by
 intro s vs ms Q a hQ
 refine Cx.AtI.el a λ g tk m cm ob cel frz S hv=>?_
 refine kdn_eval (knd:=PySem.strKind PG W.w) S.F S.N S.k.T.nolimit rfl rfl (List.cons_ne_nil _ _) (Nat.le_of_ble_eq_true rfl) λ d h' o F' N' lt lo hd=>?_
 have a1:c.At {c.s with heap:=h',toks:=tk} vals ((d,.dct [])::own) vs ms:=⟨h',tk,m,cm,_,cel,frz,S.new F' N' (λ q hq=>Nat.ne_of_lt (lt q hq)) (.dct lo hd .nil),hv⟩
 refine pairTrees_cons_walk (WE.strAt a1 λ t s' a2=>h d s' vs ms _ a2 λ v mv s2 vals2 own2 hk a3=>?_)
 refine pairTrees_cons_walk (WE.strAt a3 λ t2 s3 a4=>hk s3 _ _ _ a4 λ v2 mv2 s4 vals4 own4 hk4 a5=>pairTrees_nil_walk ?_)
 refine E1_2 hk4 λ own5 u hk=>?_;clear hk4
 refine Cx.AtI.el2 a5 λ g tk m cm ob cel frz S h2 h1 hv=>?_
 exact dct_done (pv:=[(k1,v),(k2,v2)]) u hk rfl rfl (by simp [hne]) S (.cons h1 (.cons h2 .nil)) hv hQ
noncomputable abbrev kMid (P:Vs->Ow->Prop) (K:KS):KS:=λ fv vals own=>match fv with | .nx=>P vals own | .rt m=>K (.rt m) vals own | _=>False
theorem kMid.to {P:Vs->Ow->Prop} {K:KS} (h:∀vals own,P vals own->K .nx vals own):∀fv vals own,kMid P K fv vals own->K fv vals own:=by
 intro fv vals own q
 induction fv with
 | nx=>exact h _ _ q
 | rt m=>exact q
 | br=>exact q.elim
 | ct=>exact q.elim
theorem Cx.PF.mono {K K':KS} {Q:Flow->Shared->Prop} (hm:∀fv vals own,K fv vals own->K' fv vals own) (hQ:c.PF K' Q):c.PF K Q:=λ fl fv s' v o hk ok=>hQ fl fv s' v o (hm _ _ _ hk) ok
theorem kRev.mid {x:Str} {body:List Stmt} {K:KS} {m:MV} (P:Vs->Ow->Prop) (h:kRev c x body (kMid P K) m vals own) (h2:∀vals own,P vals own->K .nx vals own):kRev c x body K m vals own :=
 λ v s Q a hQ=>h v s Q a (Cx.PF.mono (kMid.to h2) hQ)
end
theorem perm_sorted_eq:∀ {a b:List Int},a.Perm b->a.Pairwise (· <= ·)->b.Pairwise (· <= ·)->a=b:=λ p h1 h2=>p.eq_of_pairwise (λ zz zz zz zz x y=>Int.le_antisymm x y) h1 h2
theorem ints_of {vs:List Value}:∀ {ks:List Int},vs.length=ks.length->(∀ (j:Nat) (v:Value),vs[j]? = some v->∃k t,ks[j]? = some k/\v = .int k t)->IntsAre vs ks:=by
 induction vs with
 | nil=>intro ks h zz;cases ks with | nil=>exact .nil | cons _ _=>f_shut h
 | cons v r ih =>
  intro ks h hall
  cases ks with
  | nil=>f_shut h
  | cons k q =>
   refine E2_2 (hall 0 v rfl) λ k' t e1 e0_3=>?_;subst e0_3
   have e2:k=k':=by simpa using e1
   subst e2
   exact .cons _ t (ih (by simpa using h) λ j u hu=>hall (j+1) u (by trivial))
theorem rising_pw:∀ (l:List Str) (p:Str),risingS p l=true->(p::l).Pairwise (λ a b=>¬ b.cps.toList < a.cps.toList)
 | [],p,_=>by grind
 | x::r,p,h=>by
  have h':(!ltCps x.cps.toList p.cps.toList && risingS x r)=true:=h
  rw [Bool.and_eq_true,ltCps_eq] at h'
  have h1:¬ x.cps.toList < p.cps.toList:=by lia
  have q:=rising_pw r x h'.2
  refine List.pairwise_cons.mpr ⟨λ b hb=>?_,q⟩
  rcases mem_cons.mp hb with rfl | hb
  · exact h1
  · have:=List.rel_of_pairwise_cons q hb
    exact λ hlt=>h1 (List.lt_of_le_of_lt (List.not_lt.mp this) hlt)
theorem sorted_pw:∀ (l:List Str),sortedS l=true->l.Pairwise (λ a b=>¬ b.cps.toList < a.cps.toList)
 | [],_=>.nil
 | x::r,h=>rising_pw r x h
theorem sorted_uniq {a b:List Str} (p:a.Perm b) (h1:sortedS a=true) (h2:sortedS b=true):a=b :=
 p.eq_of_pairwise (le:=λ a b=>¬ b.cps.toList < a.cps.toList) (λ x y zz zz u v=>by
  have e:x.cps.toList=y.cps.toList:=List.le_antisymm (List.not_lt.mp u) (List.not_lt.mp v)
  cases x;cases y;simp_all) (sorted_pw _ h1) (sorted_pw _ h2)
open Classical in
noncomputable def sortS (l:List Str):List Str:=if h:∃r:List Str,r.Perm l/\sortedS r=true then h.choose else []
theorem sortS_eq {l r:List Str} (p:r.Perm l) (h:sortedS r=true):r=sortS l:=by
 have e:∃r:List Str,r.Perm l/\sortedS r=true:=⟨r,p,h⟩
 unfold sortS
 rw [dif_pos e]
 exact sorted_uniq (p.trans e.choose_spec.1.symm) h e.choose_spec.2
section
variable {prog:Program} {w:World} {A:Around} {E:Value->Shared->Prop} {s:Shared} {h₀:Heap} {L D d:Addr} {m:Str->Option Value} {news:Lg} {its:Array Value} {n:Nat} {vs:List Value} {ss:List Str} {o:Obj} {kvs:List (Str×Value)} {Q:Value->Shared->Prop}
theorem lsortS {news':Obj->Lg} (F:Fr h₀ L s.heap m) (N:News h₀ L s.heap news) (U:∀o,Upd D (listOf its n) o news (news' o)) (he:its.toList=vs) (hi:StrsAre vs ss) (h64:vs.length < 64)
 (h:∀vs' ss' c h',Fr h₀ L h' m->News h₀ L h' (news' (listOf (List.toArray vs') c))->StrsAre vs' ss'->ss'.Perm ss->sortedS ss'=true->Q .none {s with heap:=h'}) :
 wpAny (model prog w) A (call (.builtin "list.sort") [.ref D]) Q E s:=by
 subst he
 refine E2_4 ((U (listOf its n)).split) λ pre0 post0 e0 zz zz zz=>?_
 have z:=N (D,listOf its n) (by rw [e0];exact mem_append.mpr (.inr (.head _)))
 have ho:s.heap.get? D=some (seqObj "list" its.toList.toArray n):=by rw [Array.toArray_toList];exact z.1
 refine wpAny_call_entry PyProof.Rows.slot_list_sort ⟨_,z.1,rfl⟩ PyProof.Rows.entry_list_sort (list_sort_treeK strKind_oneLt (n:=n) (vs:=its.toList) ho hi.keysOf (λ v₁ v₂ rest e=>keyKind_strs (by rw [←e];exact hi)) h64 λ st' hp hs=>?_) (PyProof.Rows.args_list_sort _)
 refine E1_3 (sorted_out_str hi hp hs) λ ss' h1 h2 h3=>?_
 obtain ⟨c,hc⟩:=sortedHeap_at (vs:=its.toList) (out:=(arrOf st').map (λ zz=>zz.2)) ho
 refine E2_4 ((U (listOf (List.toArray ((arrOf st').map (λ zz=>zz.2)).toList) c)).split) λ pre post e1 e2 x1 x2=>?_
 have F4:Fr h₀ L (sortedHeap s.heap D its.toList ((arrOf st').map (λ zz=>zz.2))) m :=
  ksk_fr (((ksk_fr F (Heap.SameBut.update s.heap D (Obj.mapSeq λ zz => #[])) z.2.1 z.2.2).push (seqObj "tuple" its.toList.toArray 0)).push (seqObj "list" #[] 0)) (Heap.SameBut.update _ D (Obj.mapSeq λ zz=>(arrOf st').map (λ zz=>zz.2))) z.2.1 z.2.2
 refine ⟨.none,rfl,h ((arrOf st').map (λ zz=>zz.2)).toList ss' c _ F4 ?_ h1 h2 h3⟩
 rw [e2]
 rw [e1] at N
 intro p hq
 rcases mem_append.mp hq with hq | hq
 · have y:=N p (mem_append_left _ hq)
   exact ⟨(sortedHeap_old (x1 p hq) (Heap.lt_size y.1)).trans y.1,y.2⟩
 · rcases mem_cons.mp hq with rfl | hq
   · exact ⟨hc,z.2⟩
   · have y:=N p (mem_append_right _ (.tail _ hq))
     exact ⟨(sortedHeap_old (x2 p hq) (Heap.lt_size y.1)).trans y.1,y.2⟩
theorem strs_of {vs:List Value}:∀ {ks:List Str},vs.length=ks.length->(∀ (j:Nat) (v:Value),vs[j]? = some v->∃k t,ks[j]? = some k/\v = .str k t)->StrsAre vs ks:=by
 induction vs with
 | nil=>intro ks h zz;cases ks with | nil=>exact .nil | cons _ _=>f_shut h
 | cons v r ih =>
  intro ks h hall
  cases ks with
  | nil=>f_shut h
  | cons k q =>
   refine E2_2 (hall 0 v rfl) λ k' t e1 e4_3=>?_;subst e4_3
   have e2:k=k':=by simpa using e1
   subst e2
   exact .cons _ t (ih (by simpa using h) λ j u hu=>hall (j+1) u (by trivial))
end
section
variable {prog:Program} {w:World} {A:Around} {E:Value->Shared->Prop} {s:Shared} {h₀:Heap} {L d:Addr} {m:Str->Option Value} {news:Lg} {o:Obj} {Q:Value->Shared->Prop}
theorem sortedIH {kvs:List (Int×Value)} {hh:Option Value} {N0:Lg} (hA:A.handled=hh) (hI0:HIn hh N0) (hs0:∀p∈N0,p∈news) (F:Fr h₀ L s.heap m) (N:News h₀ L s.heap news) (hm:(d,o)∈news) (lo:(d == sysModules)=false) (hd:o.IsDictOf (PySem.intKind prog w) kvs) (hz:kvs.length < 64) (hs:(kvs.map (λ zz=>zz.1)).Pairwise (· <= ·))
 (h:∀B h' tk vs c,Fr h₀ L h' m->News h₀ L h' ((B,listOf vs.toArray c)::news)->(∀p∈news,p.1 < B)->IntsAre vs (kvs.map (λ zz=>zz.1))->Q (.ref B) {s with heap:=h',toks:=tk}) :
 wpAny (model prog w) A (call (.builtin "sorted") [.ref d]) Q E s:=by
 have hD:=kda_dict N hm hd
 obtain ⟨ep,hat⟩:=hD.dictAt
 refine sorted_H (by rw [hA];exact (hI0.mono hs0).at N) lo F N hat (Nat.le_trans (Nat.le_of_lt hz) (by decide)) λ B h' tk vs F' N' l1 hl hv=>?_
 have hI:IntsAre vs (kvs.map (λ zz=>zz.1)):=ints_of (by simpa using hl) λ j u hu=>by
  refine E2_2 (hv j u hu) λ k x hx hk=>?_
  obtain ⟨t,rfl⟩:=Value.isInt_shape (show Value.isInt k u=true from hk)
  exact ⟨k,t,by simp [hx],rfl⟩
 refine ksk_lsort (vs:=vs) (its:=vs.toArray) (news':=λ o=>(B,o)::news) F' N' (λ o=>.head λ p hp=>Nat.ne_of_lt (l1 p hp)) (by simp) hI (by simpa using hz) λ vs' ns' c h2 F2 N2 hI2 zz hp hP zz=>?_
 have e:=perm_sorted_eq hp hP hs
 rw [e] at hI2
 exact h B h2 tk vs' c F2 N2 l1 hI2
theorem sortedDH {kvs:List (Str×Value)} {hh:Option Value} {N0:Lg} (hA:A.handled=hh) (hI0:HIn hh N0) (hs0:∀p∈N0,p∈news) (F:Fr h₀ L s.heap m) (N:News h₀ L s.heap news) (hm:(d,o)∈news) (lo:(d == sysModules)=false) (hd:o.IsDictOf (PySem.strKind prog w) kvs) (hz:kvs.length < 64)
 (h:∀B h' tk vs c,Fr h₀ L h' m->News h₀ L h' ((B,listOf vs.toArray c)::news)->(∀p∈news,p.1 < B)->StrsAre vs (sortS (kvs.map (λ zz=>zz.1)))->(sortS (kvs.map (λ zz=>zz.1))).Perm (kvs.map (λ zz=>zz.1))->Q (.ref B) {s with heap:=h',toks:=tk}) :
 wpAny (model prog w) A (call (.builtin "sorted") [.ref d]) Q E s:=by
 have hD:=kda_dict N hm hd
 obtain ⟨ep,hat⟩:=hD.dictAt
 refine sorted_H (by rw [hA];exact (hI0.mono hs0).at N) lo F N hat (Nat.le_trans (Nat.le_of_lt hz) (by decide)) λ B h' tk vs F' N' l1 hl hv=>?_
 have hI:StrsAre vs (kvs.map (λ zz=>zz.1)):=strs_of (by simpa using hl) λ j u hu=>by
  refine E2_2 (hv j u hu) λ k x hx hk=>?_
  obtain ⟨t,rfl⟩:=Value.isStrOf_shape (show Value.isStrOf k u=true from hk)
  exact ⟨k,t,by simp [hx],rfl⟩
 refine lsortS (vs:=vs) (its:=vs.toArray) (news':=λ o=>(B,o)::news) F' N' (λ o=>.head λ p hp=>Nat.ne_of_lt (l1 p hp)) (by simp) hI (by rw [hl];exact hz) λ vs' ss' c h2 F2 N2 hI2 hp hP=>?_
 have e:=sortS_eq hp hP
 rw [e] at hI2 hp
 exact h B h2 tk vs' c F2 N2 l1 hI2 hp
end
theorem keysTo_sortedP (k:Nat):((List.range k).map λ (i:Nat)=>(i:Int)+1).Pairwise (· <= ·):=by
 rw [List.pairwise_map]
 exact List.pairwise_lt_range.imp λ h=>by lia
theorem ints_mall {w:World} {N:Lg} {vs:List Value} {ns:List Int} (h:IntsAre vs ns):MAll w N vs (ns.map .int):=by
 induction h with
 | nil=>exact .nil
 | cons _ _ _ ih=>exact .cons (.int _ _) ih
theorem strs_mall {w:World} {N:Lg} {vs:List Value} {ns:List Str} (h:StrsAre vs ns):MAll w N vs (ns.map .str):=by
 induction h with
 | nil=>exact .nil
 | cons _ _ _ ih=>exact .cons (.str _ _) ih
section
variable {W:Wd} {I:Info} {r:Nat} {c:Cx W I r} {vals vals':Vs} {own own':Ow}
theorem cls_sorted:ClsIs W (Str.ofString "sorted") (.builtin "sorted"):=.inr ⟨by kernel_rfl,by kernel_rfl,by decide⟩
theorem kF1.sortI {m:MV} {kvs:List (Int×MV)} {K:KV} (R:RdI own m kvs) (hz:kvs.length < 64) (hs:(kvs.map (λ zz=>zz.1)).Pairwise (· <= ·)) (h:∀a,K (.ptr a) vals ((a,.lst ((kvs.map (λ zz=>zz.1)).map .int))::own)):kF1 c (.builtin "sorted") K m vals own:=by
 intro v s vs ms Q a hQ
 refine Cx.AtI.el1 a λ g tk m1 cm ob cel frz S hi hv=>?_
 refine R.el S hi λ d o pvs q1 q2 q3 q4=>?_
 have hk:=q4.keys
 have hl:=congrArg List.length hk
 simp only [length_map] at hl
 refine sortedIH (hh:=c.hh) rfl S.hi (λ p hp=>by kso_open hp) S.F S.N q1 q2 q3 (by simp+arith [*]) (by rw [hk];exact hs) λ B h' tk' ws n F' N' lt hI=>?_
 rw [hk] at hI
 exact hQ _ _ _ _ _ (h B) (S.newAt hv F' N' lt (.lst (ints_mall hI)))
theorem kF1.sortS {m:MV} {kvs:List (Str×MV)} {K:KV} (R:RdS own m kvs) (hz:kvs.length < 64) (h:∀a,(Mine.sortS (kvs.map (λ zz=>zz.1))).Perm (kvs.map (λ zz=>zz.1))->K (.ptr a) vals ((a,.lst ((Mine.sortS (kvs.map (λ zz=>zz.1))).map .str))::own)):kF1 c (.builtin "sorted") K m vals own:=by
 intro v s vs ms Q a hQ
 refine Cx.AtI.el1 a λ g tk m1 cm ob cel frz S hi hv=>?_
 refine R.el S hi λ d o pvs q1 q2 q3 q4=>?_
 have hk:=q4.keys
 have hl:=congrArg List.length hk
 simp only [length_map] at hl
 refine sortedDH (hh:=c.hh) rfl S.hi (λ p hp=>by kso_open hp) S.F S.N q1 q2 q3 (by simp+arith [*]) λ B h' tk' ws n F' N' lt hI hP=>?_
 rw [hk] at hI hP
 exact hQ _ _ _ _ _ (h B hP) (S.newAt hv F' N' lt (.lst (strs_mall hI)))
theorem cls_decimal:ClsIs W (Str.ofString "Decimal") (.ref 155):=.inl (by kernel_rfl)
theorem cls_string:ClsIs W (Str.ofString "String") (.ref 205):=.inl (by kernel_rfl)
theorem cls_stream:ClsIs W (Str.ofString "Stream") (.ref 226):=.inl (by kernel_rfl)
end
section
variable {prog:Program} {w:World} {A:Around} {E:Value->Shared->Prop} {s:Shared} {h₀:Heap} {L:Addr} {m:Str->Option Value} {news:Lg} {Q:Value->Shared->Prop}
theorem tupOfL {l:Addr} {vs:List Value} {k:Nat} (F:Fr h₀ L s.heap m) (N:News h₀ L s.heap news) (hm:(l,listOf vs.toArray k)∈news) (hz:vs.length<=900)
 (h:∀D h',Fr h₀ L h' m->News h₀ L h' ((D,tupO vs 0)::news)->(∀p∈news,p.1 < D)->Q (.ref D) {s with heap:=h'}):wpAny (model prog w) A (call (.type "tuple") [.ref l]) Q E s :=
 kde_tupleOf (zs:=vs) F N (items:=vs.toArray) ⟨_,(N _ hm).1,rfl,k,rfl⟩ (by rw [List.size_toArray];exact Nat.le_trans (by assumption) (by decide)) (by simp) h
theorem addTupR {vs ws:List Value} {t b:Addr} {k k2:Nat} (F:Fr h₀ L s.heap m) (N:News h₀ L s.heap news) (ht:(t,tupO vs k)∈news) (hb:(b,tupO ws k2)∈news) (hv:vs≠[]) (hz:vs.length+ws.length<=1000)
 (h:∀D h' X k',Fr h₀ L h' m->News h₀ L h' (news++X)->(∀q∈news,∀p∈X,q.1≠p.1)->(D,tupO (vs++ws) k')∈(t,tupO vs k)::X->Q (.ref D) {s with heap:=h'}) :
 wpAny (model prog w) A (binaryOp .Add (.ref t) (.ref b)) Q E s:=by
 have h1:IsTup s.heap t vs.toArray:=⟨_,(N _ ht).1,rfl,k,rfl⟩
 have h2:IsTup s.heap b ws.toArray:=⟨_,(N _ hb).1,rfl,k2,rfl⟩
 have hz':vs.toArray.toList.length+ws.toArray.toList.length<=16384:=by simpa using Nat.le_trans hz (by decide)
 by_cases e:ws=[]
 · subst e
   exact kde_addT1 F N h1 h2 (by trivial) rfl hz' (h t s.heap [] k F (by rw [append_nil];exact N) (λ zz zz zz hp=>nomatch hp) (by rw [append_nil];exact .head _))
 · refine kde_addT (zs:=vs++ws) F N h1 h2 (by trivial) (by trivial) hz' (by simp) λ D h' F' N' l1=>?_
   refine h D h' [(D,tupO (vs++ws) 0)] 0 F' (λ p hp=>?_) (λ q hq p hp=>by rw [mem_singleton.mp hp];exact Nat.ne_of_lt (l1 q hq)) (.tail _ (.head _))
   rcases mem_append.mp hp with hp | hp
   · exact N' p (.tail _ hp)
   · rw [mem_singleton.mp hp];exact N' _ (.head _)
end
inductive PlainV:MV->Prop
 | none:PlainV .none
 | int (i:Int):PlainV (.int i)
 | name (s:Str):PlainV (mName s)
 | ref (n:Int):PlainV (mRef n)
noncomputable def toldP:MV->MV
 | .none=>.tup [.str (Str.ofString "null")]
 | .int i=>.tup [.str (Str.ofString "int"),.int i]
 | .inst _ [(_,.str s)]=>.tup [.str (Str.ofString "name"),.str s]
 | .inst _ ((_,.int n)::_)=>.tup [.str (Str.ofString "ref"),.int n,.int 0]
 | _=>.none
noncomputable def toldV:MV->MV
 | .lst l=>.tup (.str (Str.ofString "array")::l.map toldP)
 | v=>toldP v
inductive FlatV:MV->Prop
 | int (i:Int):FlatV (.int i)
 | name (s:Str):FlatV (mName s)
 | ref (n:Int):FlatV (mRef n)
 | lst {l:List MV}:(∀v∈l,PlainV v)->l.length<=60->FlatV (.lst l)
theorem FlatV.ne {v:MV} (h:FlatV v):v≠.none:=by cases h <;> (intro e;f_shut e)
theorem all_plain {l:List MV} (h:∀v∈l,PlainV v) {i:Nat} {v:MV} (e:l[i]? = some v):PlainV v:=h v (mem_of_getElem? e)
theorem mGet_of_key {κ:Type} [DecidableEq κ] {kvs:List (κ×MV)} {k:κ} (h:k∈kvs.map (λ zz=>zz.1)):∃v,mGet kvs k=some v/\(k,v)∈kvs:=by
 unfold mGet
 cases q:kvs.find? λ kv=>kv.1=k with
 | some p =>
  have h1:=mem_of_find?_eq_some q
  have h2:p.1=k:=by simpa using List.find?_some q
  exact ⟨p.2,rfl,by rw [←h2];exact h1⟩
 | none =>
  refine E1_2 (mem_map.mp h) λ p hp e0_2=>?_;subst e0_2
  have:=List.find?_eq_none.mp q p hp
  simp at this
section
variable {W:Wd} {I:Info} {r:Nat} {c:Cx W I r} {vals vals':Vs} {own own':Ow}
theorem cls_tuple:ClsIs W (Str.ofString "tuple") (.type "tuple"):=.inr ⟨by kernel_rfl,by kernel_rfl,by decide⟩
theorem kF1.tupL {m:MV} {l:List MV} {K:KV} (R:RdL own m l) (hz:l.length<=900) (h:K (.tup l) vals own):kF1 c (.type "tuple") K m vals own:=by
 intro v s vs ms Q a hQ
 refine Cx.AtI.el1 a λ g tk m1 cm ob cel frz S hi hv=>?_
 refine R.el S hi λ a us k h1 h2=>?_
 refine tupOfL S.F S.N h1 (by rw [h2.length];exact hz) λ D h' F' N' lt=>?_
 exact hQ _ _ _ _ _ h ⟨h',tk,m1,cm,ob,cel,_,S.frz1 F' N' lt,.cons (.tup (.head _) (h2.mono λ p hp=>.tail _ hp)) (hv.mono λ p hp=>.tail _ hp)⟩
theorem kB2.addTl {l q:List MV} {K:KV} (hl:l≠[]) (hz:l.length+q.length<=1000) (h:K (.tup (l++q)) vals own):kB2 c .Add (.tup l) K (.tup q) vals own:=by
 intro v iv s vs ms Q a hQ
 refine Cx.AtI.el2 a λ g tk m1 cm ob cel frz S h1 h2 hv=>?_
 refine tup_el h2 λ a us k q1 q2=>?_
 refine tup_el h1 λ d us2 k2 q3 q4=>?_
 refine addTupR S.F S.N (cmem_frz q1) (cmem_frz q3) (by intro e;rw [e] at q2;cases q2;exact hl rfl) (by rw [q2.length,q4.length];exact hz) λ D h' X k' F' N' off hD=>?_
 have hs:Ext frz (X++frz):=λ p hp=>by simp [hp]
 refine hQ _ _ _ _ _ h ⟨h',tk,m1,cm,ob,cel,X++frz,S.frzn F' (λ p hp=>N' p (by simp only [mem_append] at hp ⊢;exact hp.symm)) off,.cons (.tup (k:=k') ?_ ((q2.mono hs).append (q4.mono hs))) (hv.mono hs)⟩
 rcases mem_cons.mp hD with e | e
 · rw [e];simp [*]
 · simp [e]
end
section
variable {prog:Program} {w:World} {A:Around} {E:Value->Shared->Prop} {s:Shared}
theorem miss_keys:typeLookup (.type "list") (Str.ofString "keys")=pure none:=am_miss_of_fast (by kernel_rfl)
theorem noKeys {a:Addr} {xs:Array Value} {k:Nat} {sl:Array (Option Value)} {Q:Option Value->Shared->Prop} (hx:s.heap.get? a=some {cls:=.type "list",dict:=none,data:=.seq xs k,slots:=sl}) (hA:A.handled=none)
 (h:∀h' tk,(∀b o,s.heap.get? b=some o->h'.get? b=some o)->Q none {s with heap:=h',toks:=tk}) :
 wpAny (model prog w) A (getAttr? (.ref a) (Str.ofString "keys")) Q E s:=by
 ctx_has prog w A E s a xs k sl Q
 obtain ⟨hp,g,d,tk,os⟩:=s
 ctx_has hp g d tk os
 have hT:∀tk',(⟨hp,g,d,tk',os⟩:Shared).TypeIs (.ref a) "list":=λ zz=>⟨_,hx,rfl⟩
 have f1:=sub_AttributeError
 have f3:=PySem.F.slot_list_getattribute.lookup
 have f4:=PySem.F.slot_list_getattribute.bind (.ref a)
 have f5:=am_list_getattr_none
 have hname:(["__module__","__name__","__qualname__","__doc__","__annotations__"]:List Str).contains (Str.ofString "keys")=false:=by decide+kernel
 unfold getAttr?
 refine wpAny_bind (wpAny_mkText ?_)
 unfold getAttrBy?
 refine wpAny_bind (wpAny_attempt ?_)
 unfold getAttrBy
 repeat (any_goals (first | assumption | exact hT _ | ((with_reducible show wpAny _ _ (call (Value.builtin "list.__getattribute__") _ _) _ _ _);refine call_meets PySem.F.slot_list_getattribute (hT _) am_entry_list_getattribute (PySem.F.args_list_getattribute_2 _ _) (meets_getattribute_miss_list a xs k sl (Str.ofString "keys") _ miss_keys hname (by decide)) ⟨hx,hA,λ h' tk' e hx'=>?_⟩) | wp_step))
 ctx_has h' tk' e
 refine E2_1 (hx'.there) λ t' u' he=>?_
 ctx_has t' u'
 show wpAny _ _ (getattributeRaised _ _ _ _ _ _ _) _ _ _
 unfold getattributeRaised
 repeat (any_goals (first | assumption | wp_step))
 exact h _ _ hx'.keeps
end
theorem entry_dul:entryFor table "dict.update.loop"=some Builtin.«dict.update.loop» := entryFor_of_tree (by kernel_rfl)
theorem plain_dul:plainId "dict.update.loop"=true:=by decide+kernel
noncomputable def PairAt (h:Heap) (D I:Addr) (v:Value) (p:Str×Value):Prop:=∃a t k,v = .ref a/\h.get? a=some (tupO [.str p.1 t,p.2] k)/\a≠D/\a≠I
section
variable {prog:Program} {w:World} {A:Around} {E:Value->Shared->Prop} {s:Shared} {R:Result->Shared->Prop}
theorem pairs_items {a:Addr} {x v:Value} {k:Nat} {Q:List Value->Shared->Prop} (h:s.heap.get? a=some (tupO [x,v] k)) (hQ:Q [x,v] s):wpAny (model prog w) A (Builtin.Dict.pairItems (.ref a)) Q E s:=by
 unfold Builtin.Dict.pairItems
 refine wpAny_bind (wpAny_typeOf (T:="tuple") ⟨_,h,rfl⟩ ?_)
 rw [if_pos (by decide+kernel)]
 refine wpAny_bind (wpAny_seqItems h rfl ?_)
 exact wpAny_pure hQ
theorem dul_loop {I D:Addr} {fp wr:List Addr} {n:Nat} {St:Nat->Heap->Prop} {vs:List Value} {pvs:List (Str×Value)} (W:Walks prog w A.in1 I fp wr n (λ i v=>vs[i]? = some v) St) (hD:D∉fp) (hwr:∀b∈wr,b=I)
 (hn:pvs.length=n) (hz:n<=900) :
 ∀ (k i:Nat) (s:Shared),n - i=k->i<=n->St i s.heap->s.heap.DictOf (PySem.strKind prog w) D (merged [] (pvs.take i))->(∀ (j:Nat) (v:Value) (p:Str×Value),vs[j]? = some v->pvs[j]? = some p->PairAt s.heap D I v p) ->
  (∀h' tk,(∀b o,b≠D->b≠I->s.heap.get? b=some o->h'.get? b=some o)->h'.DictOf (PySem.strKind prog w) D (merged [] pvs)->R (.ok (.ret .none)) {s with heap:=h',toks:=tk}) ->
  codeAny (model prog w) A (.builtin "dict.update.loop" ⟨[.ref D,.ref I,rawInt i,.none],[]⟩) R s:=by
 have hDw:D∉wr:=λ h=>hD (W.sub _ h)
 intro k
 induction k with
 | zero =>
  intro i s hk hi hst hS hP hR
  have hin:i=n:=by lia
  subst hin
  refine codeAny_builtin entry_dul ?_
  rw [Around.under_plainId plain_dul _]
  show wpAny _ A.in1 (pyNext (.ref I) >>= _) _ _ s
  refine wpAny_bind (W.done s _ _ hst λ h' tk hm=>?_)
  show wpAny _ A.in1 (ret Value.none) _ _ _
  refine wpAny_pure (hR h' tk (λ b o h1 h2 e=>hm b o (λ h=>h2 (hwr b h)) e) ?_)
  rw [←hn,take_length] at hS
  refine E3_2 hS λ o es ep ho rest=>?_;clear hS
  exact ⟨o,es,ep,hm D _ hDw ho,rest⟩
 | succ k ih =>
  intro i s hk hi hst hS hP hR
  have hlt:i < n:=by lia
  refine codeAny_builtin entry_dul ?_
  rw [Around.under_plainId plain_dul _]
  show wpAny _ A.in1 (pyNext (.ref I) >>= _) _ _ s
  refine wpAny_bind (W.item i s _ _ hlt hst λ v h' tk hv hst' hm=>?_)
  obtain ⟨p,hp⟩:∃p,pvs[i]? = some p:=⟨_,List.getElem?_eq_getElem (by rw [hn];exact hlt)⟩
  refine E3_4 (hP i v p hv hp) λ a t kk e3_3 hga haD haI=>?_;subst e3_3
  have hga':h'.get? a=some (tupO [.str p.1 t,p.2] kk):=hm a _ (λ h=>haI (hwr a h)) hga
  have hS':h'.DictOf (PySem.strKind prog w) D (merged [] (pvs.take i)):=by
   refine E3_2 hS λ o es ep ho rest=>?_;clear hS
   exact ⟨o,es,ep,hm D _ hDw ho,rest⟩
  have hlen:(merged [] (pvs.take i)).length<=sizeLine:=by
   have e1:=merged_length_le [] (pvs.take i)
   have e2:=List.length_take_le i pvs
   refine Nat.le_trans e1 ?_
   simp only [length_nil,Nat.zero_add]
   exact Nat.le_trans (Nat.le_trans e2 (by lia)) (show 900<=sizeLine by decide)
  show wpAny _ A.in1 (holding [Value.ref a] _ >>= _) _ _ _
  refine wpAny_bind (wpAny_holding ?_)
  refine wpAny_bind (wpAny_tryCatch (pairs_items hga' ?_))
  dsimp only
  refine wpAny_holding ?_
  refine wpAny_dictSet_pairs (knd:=PySem.strKind prog w) (strKind_is _ _ _ _) hS' (λ h2 hd2 hs2=>?_) hlen
  refine wpAny_pure ⟨plainId_quiet plain_dul _,?_⟩
  have e:((i:Int)+1)=((i+1:Nat):Int):=by rfl
  have keep2:∀b o,b≠D->h'.get? b=some o->h2.get? b=some o:=λ b o hb q=>by rw [hs2.2 b hb];exact q
  show codeAny _ _ (.builtin "dict.update.loop" ⟨[.ref D,.ref I,rawInt ((i:Int)+1),.none],[]⟩) _ _
  rw [e]
  refine ih (i+1) _ (by lia) hlt (W.frame _ h' _ hst' λ b hb o q=>keep2 b o (λ h=>hD (h ▸ hb)) q) ?_ (λ j v q hj hq=>?_) λ h3 tk3 hk3 hd3=>?_
  · rw [merged_take_succ [] pvs i p hp];exact hd2
  · refine E3_4 (hP j v q hj hq) λ a t kk e5_3 b1 b2 b3=>?_;subst e5_3
    exact ⟨a,t,kk,rfl,keep2 a _ b2 (hm a _ (λ h=>b3 (hwr a h)) b1),b2,b3⟩
  · exact hR h3 tk3 (λ b o h1 h2' q=>hk3 b o h1 h2' (keep2 b o h1 (hm b o (λ h=>h2' (hwr b h)) q))) hd3
theorem dictPairs {l:Addr} {vs:List Value} {c:Nat} {pvs:List (Str×Value)} {Q:Value->Shared->Prop} (hh:A.handled=none) (hl:s.heap.get? l=some (listOf vs.toArray c)) (hlen:vs.length=pvs.length) (hz:pvs.length<=900) (hnd:(pvs.map (λ zz=>zz.1)).Nodup)
 (hP:∀ (j:Nat) (v:Value) (p:Str×Value),vs[j]? = some v->pvs[j]? = some p->∃a t k,v = .ref a/\s.heap.get? a=some (tupO [.str p.1 t,p.2] k))
 (h:∀h' tk,(∀b o,s.heap.get? b=some o->h'.get? b=some o)->h'.DictOf (PySem.strKind prog w) s.heap.objs.size pvs->Q (.ref s.heap.objs.size) {s with heap:=h',toks:=tk}) :
 wpAny (model prog w) A (call (.type "dict") [.ref l]) Q E s:=by
 ctx_has prog w A E s l vs c pvs Q
 refine callType_codes (Q₁:=λ obj s₁=>obj = .ref s.heap.objs.size/\s₁={s with heap:=s.heap.push {cls:=.type "dict",data:=.dict #[]}}) PySem.F.kt_called_dict (PySem.F.kt_typeCall_dict_1 _) PySem.F.entry_dict_init (kt_code_dict_new _ ⟨rfl,rfl⟩) ?_
 rintro obj s₁ ⟨rfl,rfl⟩
 have hnew:(s.heap.push {cls:=.type "dict",data:=.dict #[]}).DictOf (PySem.strKind prog w) s.heap.objs.size []:=Heap.DictOf.new s.heap
 have hl1:(s.heap.push {cls:=.type "dict",data:=.dict #[]}).get? l=some (listOf vs.toArray c):=Heap.get?_push_of_some _ hl
 have hlD:l≠s.heap.objs.size:=Nat.ne_of_lt (Heap.lt_size hl)
 refine ⟨hnew.typeIs,PySem.F.args_dict_init_2 _ _,?_⟩
 unfold Builtin.«dict.__init__»
 refine wpAny_bind ?_
 unfold Builtin.Dict.selfAndRest
 refine wpAny_bind (wpAny_notOrdered_dict hnew.typeIs ?_)
 show wpAny _ _ (pure (s.heap.objs.size,[Value.ref l])) _ _ _
 refine wpAny_pure ?_
 show wpAny _ _ (Builtin.Dict.updateFrom "dict.__init__" s.heap.objs.size (.ref l) [] .none) _ _ _
 unfold Builtin.Dict.updateFrom
 refine wpAny_bind (wpAny_typeOf (T:="list") ⟨_,hl1,rfl⟩ ?_)
 rw [if_pos (by decide)]
 refine wpAny_bind (noKeys hl1 hh λ h' tk hk=>?_)
 ctx_has h' tk
 rw [if_pos (by rfl)]
 refine wpAny_bind (wpAny_rule ?_)
 have hl2:=hk _ _ hl1
 have hls:h'.IsList l vs.toArray:=⟨_,hl2,rfl,c,rfl⟩
 refine wpAny_bind (wpAny_pyIter_list hls ?_)
 have hsz1:s.heap.objs.size < h'.objs.size:=by
  refine E3_2 hnew λ o es ep ho zz=>?_;clear hnew
  exact Heap.lt_size (hk _ _ ho)
 have hne:l≠h'.objs.size:=Nat.ne_of_lt (Heap.lt_size hl2)
 refine wpAny_bind (wpAny_pure (wpAny_pure ⟨plainId_quiet plain_dul _,?_⟩))
 have W:=Walks.list (prog:=prog) (w:=w) (A:=A.in1.in1) hh h'.objs.size l hne vs.toArray
 simp only [List.size_toArray,List.getElem?_toArray] at W
 refine dul_loop (A:=A.in1) (vs:=vs) (pvs:=pvs) (n:=vs.length) W (by simp only [mem_cons,not_mem_nil,or_false,not_or];exact ⟨Nat.ne_of_lt hsz1,Ne.symm hlD⟩) (λ b hb=>mem_singleton.mp hb) hlen.symm (by simp+arith [*]) vs.length 0 _ (by rfl) (Nat.zero_le _)
  ⟨⟨_,Heap.get?_push_size _ rfl,rfl,rfl⟩,hls.at λ o e=>Heap.get?_push_of_some _ e⟩ ?_ (λ j v p hj hp=>?_) λ h3 tk3 hk3 hd3=>?_
 · refine E3_2 hnew λ o es ep ho rest=>?_;clear hnew
   exact ⟨o,es,ep,Heap.get?_push_of_some _ (hk _ _ ho),rest⟩
 ctx_has j v p
 · refine E3_2 (hP j v p hj hp) λ a t k e8_3 ha=>?_;subst e8_3
   have ha1:=hk _ _ (Heap.get?_push_of_some {cls:=.type "dict",data:=.dict #[]} ha)
   exact ⟨a,t,k,rfl,Heap.get?_push_of_some _ ha1,Nat.ne_of_lt (Heap.lt_size ha),Nat.ne_of_lt (Heap.lt_size ha1)⟩
 · rw [merged_nil_of_nodup pvs hnd] at hd3
   refine ⟨rfl,h h3 tk3 (λ b o q=>?_) hd3⟩
   have q1:=hk _ _ (Heap.get?_push_of_some {cls:=.type "dict",data:=.dict #[]} q)
   exact hk3 b o (Nat.ne_of_lt (Heap.lt_size q)) (Nat.ne_of_lt (Heap.lt_size q1)) (Heap.get?_push_of_some _ q1)
end
section
variable {prog:Program} {w:World} {A:Around} {E:Value->Shared->Prop} {s:Shared} {h₀:Heap} {L:Addr} {m:Str->Option Value} {env:Env}
theorem dictPairsL {l:Addr} {vs:List Value} {c:Nat} {pvs:List (Str×Value)} {news:Lg} {Q:Value->Shared->Prop} (hh:A.handled=none) (F:Fr h₀ L s.heap m) (N:News h₀ L s.heap news) (hbig:h₀.NoLimit) (hl:(l,listOf vs.toArray c)∈news) (hlen:vs.length=pvs.length) (hz:pvs.length<=900)
 (hnd:(pvs.map (λ zz=>zz.1)).Nodup) (hP:∀ (j:Nat) (v:Value) (p:Str×Value),vs[j]? = some v->pvs[j]? = some p->∃a t k,v = .ref a/\(a,tupO [.str p.1 t,p.2] k)∈news)
 (h:∀D o' h' tk,Fr h₀ L h' m->News h₀ L h' ((D,o')::news)->(∀p∈news,p.1 < D)->(D == sysModules)=false->o'.IsDictOf (PySem.strKind prog w) pvs->Q (.ref D) {s with heap:=h',toks:=tk}) :
 wpAny (model prog w) A (call (.type "dict") [.ref l]) Q E s:=by
 refine dictPairs hh (N _ hl).1 hlen hz hnd (λ j v p hj hp=>?_) λ h' tk hk hd=>?_
 · refine E3_2 (hP j v p hj hp) λ a t k e hm=>?_
   exact ⟨a,t,k,e,(N _ hm).1⟩
 · refine E1_2 (Heap.dictOf_iff.mp hd) λ o' ho' hd'=>?_
   refine h _ o' h' tk (F.keeps hk) (λ p hp=>?_) (λ p hp=>Heap.lt_size (N p hp).1) (F.notModules (modules_low hbig)) hd'
   rcases mem_cons.mp hp with rfl | hp
   · exact ⟨ho',Ne.symm (Nat.ne_of_lt F.ns.lt),next_is_new F⟩
   · exact ⟨hk _ _ (N p hp).1,(N p hp).2⟩
end
theorem pairs_of {w:World} {Z:Lg} {ys:List Value} {kvs:Kvs} (h:MAll w Z ys (kvs.map λ p=>.tup [.str p.1,p.2])) :
 ∃pvs,MKv w Z pvs kvs/\ys.length=pvs.length/\∀ (j:Nat) (v:Value) (p:Str×Value),ys[j]? = some v->pvs[j]? = some p->∃a t k,v = .ref a/\(a,tupO [.str p.1 t,p.2] k)∈Z:=by
 induction kvs generalizing ys with
 | nil=>exact All2.nl h ⟨[],.nil,rfl,λ j v p h=>by f_shut h⟩
 | cons q kvs ih =>
  refine All2.cn h λ y ys h1 h2=>?_
  refine E1_3 (ih h2) λ pvs a b c=>?_
  refine tup_el h1 λ ta tvs tk g1 g2=>?_
  revert g1
  refine g2.in2 λ zz v u1 u2=>?_
  refine u1.strE λ t=>?_
  intro g1
  refine ⟨(q.1,v)::pvs,.cons u2 a,congrArg Nat.succ b,λ j u p hj hp=>?_⟩
  rcases j with _ | j
  · f_shut hj;f_shut hp;exact ⟨ta,t,tk,rfl,g1⟩
  · exact c j u p hj hp
section
variable {W:Wd} {I:Info} {r:Nat} {c:Cx W I r} {vals vals':Vs} {own own':Ow}
theorem kF1.dictP {m:MV} {kvs:List (Str×MV)} {K:KV} (R:RdL own m (kvs.map λ p=>MV.tup [.str p.1,p.2])) (hz:kvs.length<=900) (hnd:(kvs.map (λ zz=>zz.1)).Nodup) (h:∀a,K (.ptr a) vals ((a,.dct kvs)::own)) (hhb:autoParam (I.hb=false) aR):kF1 c (.type "dict") K m vals own:=by
 intro v s vs ms Q a hQ
 refine Cx.AtI.el1 a λ g tk m1 cm ob cel frz S hi hv=>?_
 refine R.el S hi λ l0 us k q1 q2=>?_
 refine E1_3 (pairs_of q2) λ pvs h1 h2 h3=>?_
 have hk:=h1.keys
 have hl:=congrArg List.length hk
 simp only [length_map] at hl
 refine dictPairsL (S.k.hhb hhb) S.F S.N S.k.T.nolimit q1 h2 (by simp+arith [*]) (by rw [hk];exact hnd) (λ j v p hj hp=>?_) λ D o' h' tk' F' N' lt lo hd=>?_
 · refine E3_2 (h3 j v p hj hp) λ a t k e hm=>?_
   exact ⟨a,t,k,e,cmem_frz hm⟩
 · exact hQ _ _ _ _ _ (h D) (S.newAt hv F' N' lt (.dct lo hd h1))
end
section
variable {prog:Program} {w:World} {A:Around} {E:Value->Shared->Prop} {s:Shared} {h₀:Heap} {L:Addr} {news:Lg}
theorem pairEqAt {a b:Addr} {n n':Int} {t u t' u':Tok} {k k':Nat} (N:News h₀ L s.heap news) (ha:(a,tupO [.int n t,.int 0 u] k)∈news) (hb:(b,tupO [.int n' t',.int 0 u'] k')∈news) (hu:A.units < cLine):SeqAt.EqAt A s (.ref a) (.ref b) (decide (n=n')):=by
 have g1:=(N _ ha).1
 have g2:=(N _ hb).1
 by_cases e:a=b
 · subst e
   have q:tupO [.int n t,.int 0 u] k=tupO [.int n' t',.int 0 u'] k':=Option.some.inj (g1.symm.trans g2)
   have q2:n=n':=by
    have:=congrArg Obj.data q
    simp at this
    exact this.1.1.1
   subst q2
   simpa using SeqAt.EqAt.same _
 · have i1:s.heap.IsTuple a #[.int n t,.int 0 u]:=⟨_,g1,rfl,k,rfl⟩
   have i2:s.heap.IsTuple b #[.int n' t',.int 0 u']:=⟨_,g2,rfl,k',rfl⟩
   have R:=SeqAt.RcAt.tuples (A:=A) (e:=λ j=>if j=0 then n == n' else true) i1 i2 hu (λ j h1 h2=>by
    match j,h1 with
    | 0,_=>exact SeqAt.EqAt.int_int _ _ _ _
    | 1,_=>exact SeqAt.EqAt.int_int _ _ _ _)
   refine SeqAt.EqAt.of_refs e ?_
   have e4:(n == n')=decide (n=n'):=by by_cases e:n=n' <;> trivial
   rw [←e4]
   simpa [List.range,List.range.loop] using R
open Classical in
theorem indexPair {D b:Addr} {vs:List Value} {c k:Nat} {ks:List Int} {j:Nat} {r:Int} {t u:Tok} {Z:Lg} {Q:Value->Shared->Prop} (N:News h₀ L s.heap news) (hm:(D,listOf vs.toArray c)∈news) (hv:MAll w Z vs (ks.map λ k=>.tup [.int k,.int 0])) (hZ:∀p∈Z,p∈news)
 (hb:(b,tupO [.int r t,.int 0 u] k)∈news) (hj:ks[j]? = some r) (hnd:ks.Nodup) (hz:ks.length<=900) (hu:A.units+9 < cLine) (h:Q (.int (j:Nat) s.toks) {s with toks:=s.toks+1}) :
 wpAny (model prog w) A (call (.builtin "list.index") [.ref D,.ref b]) Q E s:=by
 ctx_has prog w A E s h₀ L news D b vs c k ks j r t u Z Q
 have hl:=hv.length
 rw [length_map] at hl
 have hjl:=(List.getElem?_eq_some_iff.mp hj).1
 have hjv:j < vs.length:=by simp+arith [*]
 have pr:∀ (i:Nat) (hi:i < vs.length),∃a n t u k,vs[i] = .ref a/\(a,tupO [.int n t,.int 0 u] k)∈news/\ks[i]? = some n:=by
  intro i hi
  refine E1_2 (hv.at (List.getElem?_eq_getElem hi)) λ m hm' hv'=>?_
  rw [getElem?_map] at hm'
  refine E1_2 (Option.map_eq_some_iff.mp hm') λ n hn e1_2=>?_;subst e1_2
  refine E4_2 (pair_open hv') λ a t u k e hp=>?_
  exact ⟨a,n,t,u,k,e,hZ _ hp,hn⟩
 have hsmall:(j:Int) < 2 ^ 63 - 1:=by lia
 have key:∀ (i:Nat) (hi:i < vs.length),(∃a n t u k,vs[i] = .ref a/\(a,tupO [.int n t,.int 0 u] k)∈news/\n=r)↔i=j:=by
  intro i hi
  constructor
  · intro hE3;refine E5_3 hE3 λ a n t1 u1 k1 e hp e3_7=>?_;clear hE3;subst e3_7
    refine E5_3 (pr i hi) λ a' n' t2 u2 k2 e' hp' hn'=>?_
    rw [e] at e'
    f_shut e'
    have g1:=(N _ hp).1
    have g2:=(N _ hp').1
    have q:tupO [.int n t1,.int 0 u1] k1=tupO [.int n' t2,.int 0 u2] k2:=Option.some.inj (g1.symm.trans g2)
    have q2:n=n':=by
     have:=congrArg Obj.data q
     simp at this
     exact this.1.1.1
    subst q2
    have hi9:i < ks.length:=by lia
    have e1:ks[i]=n:=by simpa [hi9] using hn'
    have e2:ks[j]=n:=by simpa [hjl] using hj
    exact (List.getElem_inj hnd).mp (e1.trans e2.symm)
  · rintro rfl
    refine E5_3 (pr i hi) λ a' n' t2 u2 k2 e' hp' hn'=>?_
    rw [hj] at hn'
    f_shut hn'
    exact ⟨a',_,t2,u2,k2,e',hp',rfl⟩
 refine call_meets PySem.F.slot_list_index ⟨_,(N _ hm).1,rfl⟩ PySem.F.entry_list_index (PySem.F.args_list_index_2 _ _)
  (SeqAt.list_indexAt D vs.toArray c none #[] (.ref b) (λ y=>decide (∃a n t u k,y = .ref a/\(a,tupO [.int n t,.int 0 u] k)∈news/\n=r)) j (by assumption) hsmall ?_ ?_) ⟨(N _ hm).1,?_,h⟩
 · simp only [List.getElem_toArray,decide_eq_true_eq]
   exact (key j hjv).mpr rfl
 · intro i hi hlt
   simp only [List.getElem_toArray,decide_eq_false_iff_not]
   exact λ q=>absurd ((key i (by assumption)).mp q) (Nat.ne_of_lt hlt)
 · intro y hy
   obtain ⟨i,hi,rfl⟩:=List.getElem_of_mem (by simpa using hy:y∈vs)
   refine E5_3 (pr i hi) λ a' n' t2 u2 k2 e' hp' hn'=>?_
   have q:=pairEqAt (A:=A.in1) N hp' hb (by rw [units_in1];lia)
   rw [e']
   have e9:decide (∃a n t u k,vs[i]=Value.ref a/\(a,tupO [.int n t,.int 0 u] k)∈news/\n=r)=decide (n'=r):=by
    refine decide_eq_decide.mpr ⟨?_,?_⟩
    · intro hE8;refine E5_3 hE8 λ a n t1 u1 k1 e hp e8_7=>?_;clear hE8;subst e8_7
      rw [e'] at e
      f_shut e
      have q:tupO [.int n t1,.int 0 u1] k1=tupO [.int n' t2,.int 0 u2] k2:=Option.some.inj ((N _ hp).1.symm.trans (N _ hp').1)
      have:=congrArg Obj.data q
      simp at this
      exact this.1.1.1.symm
    · rintro rfl
      exact ⟨a',_,t2,u2,k2,e',hp',rfl⟩
   rw [e'] at e9
   rw [e9]
   exact q
end
section
variable {W:Wd} {I:Info} {r:Nat} {c:Cx W I r} {vals vals':Vs} {own own':Ow}
theorem kMb.idx {args:List Expr} {K:KV} {m:MV} {l:List MV} (R:RdL own m l) (h:WA c args (kCallB c "list.index" [m] K) vals own):kMb c (Str.ofString "index") "list.index" args K m vals own:=by
 refine ⟨λ v s vs ms Q pl a=>?_,h⟩
 refine Cx.AtI.el1 a λ g tk m1 cm ob cel frz S hi hv=>?_
 refine R.el S hi λ a us k h1 h2=>?_
 intro hQ
 exact listMethod_K S.N h1 PySem.F.slot_list_index PySem.F.type_list_index hQ
theorem ON.idx {K:KV} {m:MV} {ks:List Int} {j:Nat} {x:Int} (R:RdL own m (ks.map λ k=>MV.tup [.int k,.int 0])) (hj:ks[j]? = some x) (hnd:ks.Nodup) (hz:ks.length<=900) (h:K (.int (j:Nat)) vals own) (hr:autoParam (2<=r) aD):kCallB c "list.index" [m] K [.tup [.int x,.int 0]] vals own:=by
 intro ws s vs ms Q e at' hQ
 refine Cx.AtI.elS at' e λ g tk m1 cm ob cel frz S hw hv=>?_
 refine hw.in2 λ v y hi hk=>?_
 refine R.el S hi λ a us k h1 h2=>?_
 refine E4_2 (pair_open hk) λ b t u k2 e0_4 h3=>?_;subst e0_4
 have hu:=S.k.hu
 exact indexPair S.N h1 h2 (λ p hp=>cmem_frz hp) (cmem_frz h3) hj hnd hz (by show c.un+9 < cLine;lia) (hQ _ _ _ _ _ h ⟨g,tk+1,m1,cm,ob,cel,frz,S,.cons (.int _ _) hv⟩)
end
theorem pickTo (vs:List Value) (i:Nat):kms_pick vs none (some (i:Int))=vs.take i:=by
 unfold kms_pick kms_lo kms_hi
 dsimp only
 rw [if_neg (by simp+arith)]
 simp only [List.drop_zero,Nat.sub_zero,Int.toNat_natCast]
 exact kmk_take_min vs i
theorem pickFrom (vs:List Value) (i:Nat):kms_pick vs (some (i:Int)) none=vs.drop i:=by
 unfold kms_pick kms_lo kms_hi
 dsimp only
 rw [if_neg (by simp+arith)]
 simp only [Int.toNat_natCast]
 rw [kmk_drop_min,List.take_of_length_le (by rw [List.length_drop];omega)]
section
variable {prog:Program} {w:World} {A:Around} {E:Value->Shared->Prop} {s:Shared} {h₀:Heap} {L l b:Addr} {m:Str->Option Value} {news:Lg} {value slice:Expr} {vs ws:List Value} {k k2:Nat} {t:Tok} {i:Nat} {Q:Value->Shared->Prop}
theorem sliceTo (F:Fr h₀ L s.heap m) (N:News h₀ L s.heap news) (hl:s.heap.IsList l vs.toArray) (hz:vs.length<=900)
 (h:∀D h',Fr h₀ L h' m->News h₀ L h' ((D,listOf (vs.take i).toArray 0)::news)->(∀p∈news,p.1 < D)->Q (.ref D) {s with heap:=h'})
 (hs:subscripted slice false (.ref l) (.ref s.heap.objs.size)=operate [.ref s.heap.objs.size,.ref l] (getItem (.ref l) (.ref s.heap.objs.size))) (ht:∀r,letTemporaryGo value (.ref l) r=pure ()) :
 wpAny (model prog w) A (subscriptTail value slice (.ref l) (.ref s.heap.objs.size)) Q E {s with heap:=s.heap.push {cls:=.type "slice",data:=.fields #[.none,.int (i:Int) t,.none]}} :=
 kms_slice_lit (its:=vs.toArray) (zs:=vs.take i) F N hl .none (.int _ _) (by simpa using pickTo vs i) h hs ht (by rw [List.size_toArray,sizeLine_eq];exact Nat.le_trans (by assumption) (by decide))
theorem sliceFrom (F:Fr h₀ L s.heap m) (N:News h₀ L s.heap news) (hl:s.heap.IsList l vs.toArray) (hz:vs.length<=900)
 (h:∀D h',Fr h₀ L h' m->News h₀ L h' ((D,listOf (vs.drop i).toArray 0)::news)->(∀p∈news,p.1 < D)->Q (.ref D) {s with heap:=h'})
 (hs:subscripted slice false (.ref l) (.ref s.heap.objs.size)=operate [.ref s.heap.objs.size,.ref l] (getItem (.ref l) (.ref s.heap.objs.size))) (ht:∀r,letTemporaryGo value (.ref l) r=pure ()) :
 wpAny (model prog w) A (subscriptTail value slice (.ref l) (.ref s.heap.objs.size)) Q E {s with heap:=s.heap.push {cls:=.type "slice",data:=.fields #[.int (i:Int) t,.none,.none]}} :=
 kms_slice_lit (its:=vs.toArray) (zs:=vs.drop i) F N hl (.int _ _) .none (by simpa using pickFrom vs i) h hs ht (by rw [List.size_toArray,sizeLine_eq];exact Nat.le_trans (by assumption) (by decide))
theorem addLL (F:Fr h₀ L s.heap m) (N:News h₀ L s.heap news) (ha:(l,listOf vs.toArray k)∈news) (hb:(b,listOf ws.toArray k2)∈news) (hz:vs.length+ws.length<=900)
 (h:∀D h',Fr h₀ L h' m->News h₀ L h' ((D,listOf (vs++ws).toArray 0)::news)->(∀p∈news,p.1 < D)->Q (.ref D) {s with heap:=h'}) :
 wpAny (model prog w) A (binaryOp .Add (.ref l) (.ref b)) Q E s :=
 add_lists F N ⟨_,(N _ ha).1,rfl,k,rfl⟩ ⟨_,(N _ hb).1,rfl,k2,rfl⟩ (λ h' F' N'=>h _ h' F' N' λ p hp=>Heap.lt_size (N p hp).1) (by rw [sizeLine_eq];exact Nat.le_trans (by assumption) (by decide))
end
theorem All2.take {w:World} {N:Lg} {vs:List Value} {ms:List MV} (h:MAll w N vs ms):∀i:Nat,MAll w N (vs.take i) (ms.take i):=by
 induction vs generalizing ms with
 | nil=>cases h;intro i;simp;exact .nil
 | cons v r ih =>
  cases h with
  | cons hv hr =>
   intro i
   induction i with
   | zero=>exact .nil
   | succ i=>exact .cons hv (ih hr i)
theorem All2.drop {w:World} {N:Lg} {vs:List Value} {ms:List MV} (h:MAll w N vs ms):∀i:Nat,MAll w N (vs.drop i) (ms.drop i):=by
 induction vs generalizing ms with
 | nil=>cases h;intro i;simp;exact .nil
 | cons v r ih =>
  cases h with
  | cons hv hr =>
   intro i
   induction i with
   | zero=>exact .cons hv hr
   | succ i=>exact ih hr i
section
variable {W:Wd} {I:Info} {r:Nat} {c:Cx W I r} {vals vals':Vs} {own own':Ow}
noncomputable def kF2b (c:Cx W I r) (f:Value) (m1:MV) (K:KV):KV:=λ m2 vals own=>O2 c (λ a b=>call f [a,b]) K m1 m2 vals own
noncomputable abbrev kF2a (c:Cx W I r) (f:Value) (e2:Expr) (K:KV):KV:=λ m1 vals own=>WE c e2 (kF2b c f m1 K) vals own
theorem WE.bi2 {e e2:Expr} {x:Str} {id:String} {p p':Pos} {K:KV} (h:WE c e (kF2a c (.builtin id) e2 K) vals own) (hi:ClsIs W x (.builtin id)) (hx:(cEnv I 0 0).kindOf x=some .globalImplicit) (hd:(x == ("__debug__":Str))=false)
 (he1:autoParam (∀env,starEach [e,e2] env=(false,eval e env)::starEach [e2] env) aK) (he2:autoParam (∀env,starEach [e2] env=(false,eval e2 env)::starEach [] env) aK)
 (hp:autoParam (∀env,(backTo p (starEach [e2] env)).any (λ zz=>zz.1)=false) aK)
 (hc':autoParam (∀env,eval (.Call (.Name x p') [e,e2] [] p) env=(do callWith p (←eval (.Name x p') env) [] (backTo p (starEach [e,e2] env)) (backToKw p (keywordEach [] env)))) aK):WE c (.Call (.Name x p') [e,e2] [] p) K vals own:=by
 intro s vs ms Q a hQ
 refine Call_ (name_cls hi hx hd a ?_) (hc' _)
 refine PyProof.Rows.callWith_builtin1 (args_cons (h s vs ms _ a λ v mv s' vals' own' hk a'=>?_) (he1 _)) (he1 _) (hp _)
 refine args_cons (hk s' _ _ _ a' λ v2 mv2 s2 vals2 own2 hk2 a2=>args_nil ?_) (he2 _)
 exact hk2 v v2 s2 vs ms Q a2 hQ
theorem cls_min:ClsIs W (Str.ofString "min") (.builtin "min"):=.inr ⟨by kernel_rfl,by kernel_rfl,by decide⟩
theorem kF2b.min {a b:Int} {K:KV} (h:K (.int (if b < a then b else a)) vals own) (hhb:autoParam (I.hb=false) aR):kF2b c (.builtin "min") (.int a) K (.int b) vals own:=by
 intro v iv s vs ms Q at' hQ
 refine Cx.AtI.el2 at' λ g tk m1 cm ob cel frz S h1 h2 hv=>?_
 refine h2.intE λ t=>?_
 refine h1.intE λ u=>?_
 exact min_two_N (S.k.hhb hhb) S.F S.N λ h' tk' F' N'=>hQ _ _ _ _ _ h ⟨h',tk',m1,cm,ob,cel,frz,S.s0.st F' N',.cons (.int _ _) hv⟩
theorem kB2.addL {l q:List MV} {m1 m2:MV} {K:KV} (R1:RdL own m1 l) (R2:RdL own m2 q) (hz:l.length+q.length<=900) (h:∀a,K (.ptr a) vals ((a,.lst (l++q))::own)):kB2 c .Add m1 K m2 vals own:=by
 intro v iv s vs ms Q a hQ
 refine Cx.AtI.el2 a λ g tk m1 cm ob cel frz S h1 h2 hv=>?_
 refine R1.el S h2 λ a us k q1 q2=>?_
 refine R2.el S h1 λ d us2 k2 q3 q4=>?_
 exact addLL S.F S.N q1 q3 (by rw [q2.length,q4.length];exact hz) λ D h' F' N' lt=>hQ _ _ _ _ _ (h D) (S.newAt (tk:=tk) hv F' N' lt (.lst (q2.append q4)))
noncomputable def SbS (slice:Expr):Prop:=∀l a,subscripted slice false (.ref l) (.ref a)=operate [.ref a,.ref l] (getItem (.ref l) (.ref a))
inductive RdG (W:Wd) (own:Ow):MV->List MV->Prop
 | t {l}:RdG W own (.lst l) l
 | o {a l}:(a,OV.lst l)∈own->RdG W own (.ptr a) l
 | g {a us o l}:(a,o)∈W.gr->(∀h:Heap,h.get? a=some o->h.IsList a us.toArray)->MAll W.w [] us l->RdG W own (.ptr a) l
@[elab_as_elim] theorem RdG.el {motive:Value->Prop} {g:Heap} {m cm:Str->Option Value} {ob cel frz:Lg} {mv:MV} {l:List MV} {v:Value} (R:RdG W own mv l) (S:c.St g m cm ob cel frz vals own) (hi:MIn W.w frz v mv)
 (k:∀a us,g.IsList a us.toArray->MAll W.w frz us l->motive (.ref a)):motive v:=by
 induction R with
 | t=>exact RdL.t.el S hi λ a us j h1 h2=>k a us ⟨_,(S.N _ h1).1,rfl,j,rfl⟩ h2
 | o hm=>exact (RdL.o hm).el S hi λ a us j h1 h2=>k a us ⟨_,(S.N _ h1).1,rfl,j,rfl⟩ h2
 | g h1 h3 h2=>exact hi.ptrE (k _ _ (h3 _ (S.F.keep _ _ (S.k.T.gr _ h1))) (h2.mono λ p (hp:p∈([]:Lg))=>nomatch hp))
noncomputable def kSlTo (W:Wd) (mo:MV) (K:KV):KV:=λ m vals own=>∃ (i:Nat) (l:List MV),m = .int (i:Int)/\RdG W own mo l/\l.length<=900/\∀a,K (.ptr a) vals ((a,.lst (l.take i))::own)
noncomputable def kSlFrom (W:Wd) (mo:MV) (K:KV):KV:=λ m vals own=>∃ (i:Nat) (l:List MV),m = .int (i:Int)/\RdG W own mo l/\l.length<=900/\∀a,K (.ptr a) vals ((a,.lst (l.drop i))::own)
theorem kSlTo.mk {mo:MV} {l:List MV} {K:KV} {i:Nat} {x:Int} (R:RdG W own mo l) (hz:l.length<=900) (h:∀a,K (.ptr a) vals ((a,.lst (l.take i))::own)) (hx:autoParam (x=(i:Int)) aR):kSlTo W mo K (.int x) vals own:=⟨i,l,by rw [hx],R,hz,h⟩
theorem kSlFrom.mk {mo:MV} {l:List MV} {K:KV} {i:Nat} {x:Int} (R:RdG W own mo l) (hz:l.length<=900) (h:∀a,K (.ptr a) vals ((a,.lst (l.drop i))::own)) (hx:autoParam (x=(i:Int)) aR):kSlFrom W mo K (.int x) vals own:=⟨i,l,by rw [hx],R,hz,h⟩
noncomputable abbrev kSlV (c:Cx W I r) (hi:Expr) (Sl:MV->KV):KV:=λ m vals own=>WE c hi (Sl m) vals own
theorem WE.subTo {value hi:Expr} {p p':Pos} {K:KV} (h:WE c value (kSlV c hi λ mo=>kSlTo W mo K) vals own) (hs:autoParam (SbS (.Slice Option.none (some hi) Option.none p)) aK):WE c (.Subscript value (.Slice Option.none (some hi) Option.none p) p') K vals own:=by
 intro s vs ms Q a hQ
 refine Subscript_ (h s vs ms _ a λ v mv s' vals' own' hk a'=>?_)
 refine wpAny_Slice (wpAny_pure (hk s' _ _ _ a' λ v2 mv2 s2 vals2 own2 hk2 a2=>wpAny_pure ?_))
 obtain ⟨i,l,rfl,R,hz,hk2⟩:=hk2
 refine Cx.AtI.el2 a2 λ g tk m cm ob cel frz S h1 h2 hv=>?_
 refine h1.intE λ t=>?_
 refine R.el S h2 λ d us q1 q2=>?_
 exact kba_turn (value':=anyName) (λ zz=>rfl) (sliceTo (value:=anyName) (s:={c.s with heap:=g,toks:=tk}) S.F S.N q1 (by rw [q2.length];exact hz) (λ D h' F' N' lt=>hQ _ _ _ _ _ (hk2 D) (S.newAt (tk:=tk) hv F' N' lt (.lst (q2.take i)))) (hs _ _) (λ zz=>rfl))
theorem WE.subFrom {value hi:Expr} {p p':Pos} {K:KV} (h:WE c value (kSlV c hi λ mo=>kSlFrom W mo K) vals own) (hs:autoParam (SbS (.Slice (some hi) Option.none Option.none p)) aK):WE c (.Subscript value (.Slice (some hi) Option.none Option.none p) p') K vals own:=by
 intro s vs ms Q a hQ
 refine Subscript_ (h s vs ms _ a λ v mv s' vals' own' hk a'=>?_)
 refine wpAny_Slice (hk s' _ _ _ a' λ v2 mv2 s2 vals2 own2 hk2 a2=>wpAny_pure (wpAny_pure ?_))
 obtain ⟨i,l,rfl,R,hz,hk2⟩:=hk2
 refine Cx.AtI.el2 a2 λ g tk m cm ob cel frz S h1 h2 hv=>?_
 refine h1.intE λ t=>?_
 refine R.el S h2 λ d us q1 q2=>?_
 exact kba_turn (value':=anyName) (λ zz=>rfl) (sliceFrom (value:=anyName) (s:={c.s with heap:=g,toks:=tk}) S.F S.N q1 (by rw [q2.length];exact hz) (λ D h' F' N' lt=>hQ _ _ _ _ _ (hk2 D) (S.newAt (tk:=tk) hv F' N' lt (.lst (q2.drop i)))) (hs _ _) (λ zz=>rfl))
end
section
variable {prog:Program} {w:World} {A:Around} {E:Value->Shared->Prop} {s:Shared} {h₀:Heap} {L:Addr} {m:Str->Option Value} {env:Env}
theorem SrcZ.range {Rest:RestT} {rr:Addr} {b₀:Int} {t₀ u₀ v₀:Tok} {n:Nat} {news:Lg} {s₁:Shared} (hh:A.handled=none) (F:Fr h₀ L s₁.heap m) (N:News h₀ L s₁.heap news) (hr:IsRange s₁.heap rr 0 b₀ 1 t₀ u₀ v₀) (hsm:Builtin.Range.small 0 b₀ 1=true) (hsz:Builtin.Range.rangeSize 0 b₀ 1=(n:Int)) (hz:n<=900)
 (h:∀g,Rest m {s₁ with heap:=g} (λ zz=>True) (λ i v=>i < n/\∃t,v = .int (i:Int) t) n news):SrcZ prog w A h₀ L Rest (.ref rr) s₁:=by
 ctx_has prog w A h₀ L m Rest rr b₀ t₀ u₀ v₀ n news s₁
 have W:Walks prog w A s₁.heap.objs.size [s₁.heap.objs.size] [s₁.heap.objs.size] n (λ i v=>i < n/\∃t,v = .int (i:Int) t) (λ i h=>IsRangeIter h s₁.heap.objs.size (0+(i:Nat) * 1) ((n:Int) - (i:Nat)) 1) :=
  let W:=(Walks.range (prog:=prog) (w:=w) hh s₁.heap.objs.size 0 1 n).bound
  {sub:=W.sub,frame:=W.frame,done:=W.done,self:=W.self,item:=λ i s Q E hi st hQ=>W.item i s Q E hi st λ v h' tk hP=>hQ v h' tk (by obtain ⟨q,t,rfl⟩:=hP;exact ⟨q,t,by rw [Int.mul_one,Int.zero_add]⟩)}
 refine ⟨m,_,[],n,_,_,(λ zz=>True),news,F,N,trivial,Nat.le_trans hz (show 900<=sizeLine by decide),(λ b hb=>(nomatch hb)),λ E Q hq=>wpAny_pyIter_range hr hsm hq,W,λ i h st=>⟨_,st⟩,?_,by show IsRangeIter _ _ _ _ _;rw [hsz];simpa using Heap.get?_push_size _ rfl,λ _ ⟨g,e⟩=>e ▸ h g⟩
 intro i h h' o nw st e e' zz zz zz
 have st':h.get? s₁.heap.objs.size=some _:=st
 show h'.get? s₁.heap.objs.size=some _
 rw [e',← e];exact st'
end
section
variable {W:Wd} {I:Info} {r:Nat} {c:Cx W I r} {vals vals':Vs} {own own':Ow}
noncomputable def kCompR (c:Cx W I r) (elt:Expr) (x:Str) (sc:Scope) (Kd:Vs->List MV->Ow->Prop):KV:=λ mv vals own=>∀v s vs ms F,c.At s vals own (v::vs) (mv::ms)->FinOK c F vals vs ms (Kd vals) ->
 wpAny (model PG W.w) c.A (call (.type "range") [v]) (λ xv s'=>SrcZ PG W.w c.A c.h₀ c.L (restOf PG W.w c.A c.h₀ c.L c.env Option.none elt x sc (clF sc c.env) F) xv s') c.E s
theorem WE.compR {elt e:Expr} {x:Str} {px p p' pos:Pos} {sc:Scope} {K:KV} (h:WE c e (kCompR c elt x sc (kcE K)) vals own) (hx2:(cEnv I 0 0).kindOf (Str.ofString "range")=some .globalImplicit) (hcp:autoParam (I.cp=Option.none) aK)
 (hclos:autoParam (∀L,closureFor sc (fEnv I L)=pure (clF sc (fEnv I L))) aK) (hcell:autoParam ((sc.names.all λ y=>y.2 != .cell)=true) aQ) (hkind:autoParam (sc.kind = .function) aK)
 (hnames:autoParam ((sc.names.all λ y=>y.2 != .local || sc.names.lookup y.1 == some .local)=true) aQ) (hx:autoParam (sc.names.lookup x=some .local) aQ)
 (he1:autoParam (∀env,starEach [e] env=(false,eval e env)::starEach [] env) aK) (hp:autoParam ((backTo p (starEach [] c.env)).any (λ zz=>zz.1)=false) aK)
 (hc':autoParam (∀env,eval (.Call (.Name (Str.ofString "range") p') [e] [] p) env=(do callWith p (←eval (.Name (Str.ofString "range") p') env) [] (backTo p (starEach [e] env)) (backToKw p (keywordEach [] env)))) aK)
 (hs:autoParam (∀env x,foldedSetIterable (.Call (.Name (Str.ofString "range") p') [e] [] p) env x=pure x) aK):WE c (.ListComp elt [⟨.Name x px,.Call (.Name (Str.ofString "range") p') [e] [] p,[],0⟩] sc pos) K vals own:=by
 intro s vs ms Q a hQ
 have he:c.env=fEnv I c.L:=by unfold Cx.env cEnv;rw [hcp]
 refine ListComp_Z (ct:=Option.none) (h₀:=c.h₀) (L:=c.L) (by rw [he];exact hclos c.L) (λ y hy e=>?_) hkind (λ y hy e=>?_) hx (Call_ (name_cls cls_range hx2 (by decide+kernel) a (callWith_type1 (args_cons (h s vs ms _ a λ v mv s' vals' own' hk a'=>args_nil (hk v s' vs ms _ a' ?_)) (he1 _)) (he1 _) hp)) (hc' _)) (hs _)
 · have:=List.all_eq_true.mp hcell y hy;rw [e] at this;cases this
 · have:=List.all_eq_true.mp hnames y hy;rw [e] at this;simpa using this
 · intro m cm ob cel frz own2 l ys tk g2 S1 hv1 hys hd nx hn1 hn2
   refine finE λ D h' tk' F' N0 off0=>?_
   have N':News c.h₀ c.L h' ((D,LCg.lst ys)::c.all ob cel frz):=λ p hp=>N0 p (by rcases mem_cons.mp hp with rfl | hp;exact .head _;exact .tail _ (hn2 p hp))
   have off:∀p∈c.all ob cel frz,p.1≠D:=λ p hp=>off0 p (hn2 p hp)
   exact hQ _ _ _ _ _ (hd D) ⟨h',tk',m,cm,_,cel,frz,(S1.st F' λ p hp=>N' p (.tail _ hp)).new (a:=D) (o:=listOf ys.toArray ys.length) (ov:=.lst l) F' N' off (.lst hys),.cons (.ptr _) hv1⟩
theorem kCompR.mk {elt:Expr} {x:Str} {sc:Scope} {Kd:Vs->List MV->Ow->Prop} {n:Nat} (J:Nat->List MV->Ow->Prop) {caps:List (Str×Bool)} {u:Vs} (cap:Cap I.names vals caps u) (h0:J 0 [] own)
 (turn:∀ (c':Cx W (I.cmp ((x,false)::caps) sc) r) i l own,i < n->J i l own->WC c' Option.none elt J i l (some (.int (i:Int))::u) own) (done:∀l own,J n l own->Kd vals l own) (hz:n<=900)
 (hok:autoParam (okC I ((x,false)::caps) sc=true) aQ) (hcp:autoParam (I.cp=Option.none) aR) (hhb:autoParam (I.hb=false) aR):kCompR c elt x sc Kd (.int (n:Int)) vals own:=by
 intro v s vs ms F a hQ
 refine Cx.AtI.el1 a λ g tk m cm ob cel frz S hi hv=>?_
 refine hi.intE λ t=>?_
 refine range1_rows S.F S.N λ h' tk' t₁ u₁ v₁ hr F' N' zz=>?_
 refine SrcZ.range (m:=m) (news:=c.all ob cel frz) (n:=n) (S.k.hhb hhb) F' N' hr (small_one (by exact Int.natCast_nonneg _) (by exact Int.natCast_nonneg _) (by exact Int.natCast_nonneg _) (by lia)) (by rw [rangeSize_one];split <;> lia) hz λ g2=>?_
 refine comp_core (src:=(List.range n).map λ (i:Nat)=>MV.int i) J cap hcp hok h0 ?_ done (S.s0.st F' N') hv hQ (Src:=[]) (λ p hp=>nomatch hp) ?_ λ nw zz zz=>trivial
 · intro c' i mv l own hm hJ
   rw [getElem?_map] at hm
   refine E1_2 (Option.map_eq_some_iff.mp hm) λ j hj e1_2=>?_;subst e1_2
   obtain ⟨h1,h2⟩:=List.getElem?_eq_some_iff.mp hj
   rw [List.getElem_range] at h2
   subst h2
   exact turn c' i l own (by simpa using h1) hJ
 · rintro i v ⟨hi,t,rfl⟩
   exact ⟨.int i,by simp [hi],.int _ _⟩
end
noncomputable def cut (ms:List MV) (many at':Nat):List MV:=(ms.drop (at' * ms.length / many)).take ((at'+1) * ms.length / many - at' * ms.length / many)
theorem pickRun (vs:List Value) (a b:Nat):kms_pick vs (some (a:Int)) (some (b:Int))=(vs.drop a).take (min b vs.length - min a vs.length):=by
 unfold kms_pick kms_lo kms_hi
 dsimp only
 rw [if_neg (by simp+arith),if_neg (by simp+arith)]
 simp only [Int.toNat_natCast]
 rw [kmk_drop_min]
theorem sliceRun {prog:Program} {w:World} {A:Around} {E:Value->Shared->Prop} {s:Shared} {h₀:Heap} {L l:Addr} {m:Str->Option Value} {news:Lg} {value slice:Expr} {vs:List Value} {k a b:Nat} {x y:Int} {t u:Tok} {Q:Value->Shared->Prop} (F:Fr h₀ L s.heap m) (N:News h₀ L s.heap news) (hl:s.heap.IsList l vs.toArray) (hz:vs.length<=900) (hx:x=(a:Int)) (hy:y=(b:Int)) (hb:b<=vs.length) (hab:a<=b)
 (h:∀D h',Fr h₀ L h' m->News h₀ L h' ((D,listOf ((vs.drop a).take (b - a)).toArray 0)::news)->(∀p∈news,p.1 < D)->Q (.ref D) {s with heap:=h'})
 (hs:subscripted slice false (.ref l) (.ref s.heap.objs.size)=operate [.ref s.heap.objs.size,.ref l] (getItem (.ref l) (.ref s.heap.objs.size))) (ht:∀r,letTemporaryGo value (.ref l) r=pure ()) :
 wpAny (model prog w) A (subscriptTail value slice (.ref l) (.ref s.heap.objs.size)) Q E {s with heap:=s.heap.push {cls:=.type "slice",data:=.fields #[.int x t,.int y u,.none]}}:=by
 subst hx hy
 refine kms_slice_lit (its:=vs.toArray) (zs:=(vs.drop a).take (b - a)) F N hl (.int _ _) (.int _ _) ?_ h hs ht (by rw [List.size_toArray,sizeLine_eq];exact Nat.le_trans (by assumption) (by decide))
 have:=pickRun vs a b
 rw [Nat.min_eq_left hb,Nat.min_eq_left (Nat.le_trans hab hb)] at this
 trivial
theorem All2.cutR {w:World} {N:Lg} {vs:List Value} {ms:List MV} (h:MAll w N vs ms) (a b:Nat):MAll w N ((vs.drop a).take b) ((ms.drop a).take b):=(h.drop a).take b
section
variable {W:Wd} {I:Info} {r:Nat} {c:Cx W I r} {vals vals':Vs} {own own':Ow}
noncomputable def kRun2 (W:Wd) (mo m1:MV) (K:KV):KV:=λ m2 vals own=>∃ (i j:Nat) (l:List MV),m1 = .int (i:Int)/\m2 = .int (j:Int)/\RdG W own mo l/\l.length<=900/\j<=l.length/\i<=j/\∀a,K (.ptr a) vals ((a,.lst ((l.drop i).take (j - i)))::own)
theorem kRun2.mk {mo:MV} {l:List MV} {K:KV} {i j:Nat} {x y:Int} (R:RdG W own mo l) (hz:l.length<=900) (hx:x=(i:Int)) (hy:y=(j:Int)) (h1:j<=l.length) (h2:i<=j) (h:∀a,K (.ptr a) vals ((a,.lst ((l.drop i).take (j - i)))::own)):kRun2 W mo (.int x) K (.int y) vals own:=⟨i,j,l,by rw [hx],by rw [hy],R,hz,h1,h2,h⟩
noncomputable abbrev kRun1 (c:Cx W I r) (mo:MV) (hi:Expr) (K:KV):KV:=λ m1 vals own=>WE c hi (kRun2 W mo m1 K) vals own
theorem WE.subRun {value lo hi:Expr} {p p':Pos} {K:KV} (h:WE c value (kSlV c lo λ mo=>kRun1 c mo hi K) vals own) (hs:autoParam (SbS (.Slice (some lo) (some hi) Option.none p)) aK):WE c (.Subscript value (.Slice (some lo) (some hi) Option.none p) p') K vals own:=by
 intro s vs ms Q a hQ
 refine Subscript_ (h s vs ms _ a λ v mv s' vals' own' hk a'=>?_)
 refine wpAny_Slice (hk s' _ _ _ a' λ v2 mv2 s2 vals2 own2 hk2 a2=>hk2 s2 _ _ _ a2 λ v3 mv3 s3 vals3 own3 hk3 a3=>wpAny_pure ?_)
 obtain ⟨i,j,l,rfl,rfl,R,hz,h1,h2,hk3⟩:=hk3
 refine Cx.AtI.el3 a3 λ g tk m cm ob cel frz S q3 q2 q1 hv=>?_
 refine q3.intE λ t=>?_
 refine q2.intE λ u=>?_
 refine R.el S q1 λ d us z1 z2=>?_
 have hl:=z2.length
 exact kba_turn (value':=anyName) (λ zz=>rfl) (sliceRun (value:=anyName) (k:=0) (s:={c.s with heap:=g,toks:=tk}) (a:=i) (b:=j) S.F S.N z1 (by simp+arith [*]) rfl rfl (by simp+arith [*]) h2 (λ D h' F' N' lt=>hQ _ _ _ _ _ (hk3 D) (S.newAt (tk:=tk) hv F' N' lt (.lst (z2.cutR i (j - i))))) (hs _ _) (λ zz=>rfl))
end
section
variable {W:Wd} {I:Info} {r:Nat} {c:Cx W I r} {vals vals':Vs} {own own':Ow}
theorem O1.mk {t:Value->Sem Value} {K:KV} {m1 m:MV} (h:K m vals own) (hm:∀N v1 A E s (Q:Value->Shared->Prop),MIn W.w N v1 m1->(∀v k,(∀N',MIn W.w N' v m)->Q v {s with toks:=k})->wpAny (model PG W.w) A (t v1) Q E s):O1 c t K m1 vals own:=by
 intro v1 s vs ms Q a hQ
 refine Cx.AtI.el1 a λ g tk m0 cm ob cel frz S h1 hv=>?_
 exact hm frz v1 _ _ _ _ h1 λ v k hv'=>hQ v m _ vals own h ⟨g,k,m0,cm,ob,cel,frz,S,.cons (hv' _) hv⟩
theorem kF1.intI {i:Int} {K:KV} (h:K (.int i) vals own):kF1 c (.type "int") K (.int i) vals own:=O1.mk h λ N v A E s Q h1 q=>by
 refine h1.intE λ t=>?_;exact call_int_int (q _ s.toks λ zz=>.int _ _)
theorem kF1.intB {b:Bool} {K:KV} (h:K (.int (if b then 1 else 0)) vals own):kF1 c (.type "int") K (.bool b) vals own:=O1.mk h λ N v A E s Q h1 q=>by
 refine h1.boolE ?_;exact call_int_bool (q _ _ λ zz=>.int _ _)
theorem kF1.abs {i:Int} {K:KV} (h:K (.int (if i < 0 then -i else i)) vals own):kF1 c (.builtin "abs") K (.int i) vals own:=O1.mk h λ N v A E s Q h1 q=>by
 refine h1.intE λ t=>?_;exact call_abs_int λ u k=>q _ _ λ zz=>.int _ _
theorem cls_abs:ClsIs W (Str.ofString "abs") (.builtin "abs"):=.inr ⟨by kernel_rfl,by kernel_rfl,by decide⟩
theorem cls_sum:ClsIs W (Str.ofString "sum") (.builtin "sum"):=.inr ⟨by kernel_rfl,by kernel_rfl,by decide⟩
theorem All2.ints {w:World} {N:Lg} {l:List Int}:∀ {vs:List Value},MAll w N vs (l.map MV.int)->IntsAre vs l:=by
 induction l with
 | nil=>intro vs h;cases h;exact .nil
 | cons x r ih =>
  intro vs h
  cases h with
  | cons h1 h2=>refine h1.intE λ t=>?_;exact .cons _ _ (ih h2)
theorem kF1.sum {m:MV} {ns:List Int} {K:KV} (R:RdL own m (ns.map MV.int)) (h:K (.int ns.sum) vals own) (hhb:autoParam (I.hb=false) aR):kF1 c (.builtin "sum") K m vals own:=by
 intro v s vs ms Q a hQ
 refine Cx.AtI.el1 a λ g tk m1 cm ob cel frz S hi hv=>?_
 refine R.el S hi λ a us k h1 h2=>?_
 refine LSm.sum_ints S.F S.N (S.k.hhb hhb) ⟨_,(S.N _ h1).1,rfl,k,rfl⟩ h2.ints λ h' tk' t' F' N'=>?_
 exact hQ _ _ _ _ _ h ⟨h',tk',m1,cm,ob,cel,frz,S.s0.st F' N',.cons (.int _ _) hv⟩
theorem kB2.pow {a b:Int} {K:KV} (hb:0<=b) (hb2:b<=1000000) (ha:a.natAbs < 2 ^ 64) (h:K (.int (a ^ b.toNat)) vals own):kB2 c .Pow (.int a) K (.int b) vals own:=O2.mk h λ N v1 v2 A E s Q h1 h2 q=>by
 refine h1.intE λ t=>?_;refine h2.intE λ u=>?_;exact pow_int_small hb hb2 ha (q _ _ λ zz=>.int _ _)
theorem kB2.powAny {a b:Int} {K:KV} (hb:0<=b) (hb2:b<=1000000) (ha:a.natAbs < 2 ^ 64) (h:∀p:Int,K (.int p) vals own):kB2 c .Pow (.int a) K (.int b) vals own:=kB2.pow hb hb2 ha (h _)
theorem All2.set {w:World} {N:Lg} {ms:List MV} {v:Value} {m:MV} (hv:MIn w N v m):∀ {vs:List Value} {i:Nat},i < ms.length->MAll w N vs ms->∃q,ki_setL vs i v=some q/\MAll w N q (ms.set i m):=by
 induction ms with
 | nil=>intro vs i h;f_shut h
 | cons y r ih =>
  intro vs i h hm
  cases hm with
  | cons h1 h2 =>
   induction i with
   | zero=>exact ⟨_,rfl,.cons hv h2⟩
   | succ i =>
    refine E1_2 (ih (Nat.lt_of_succ_lt_succ h) h2) λ q e hq=>?_
    exact ⟨_::q,by unfold ki_setL;rw [e],.cons h1 hq⟩
theorem kSet.lst {K:Vs->Ow->Prop} {mv:MV} {a:Addr} {l:List MV} {x:Int} {i:Nat} (u:Up own a (.lst l) (.lst (l.set i mv)) own') (hx:x=(i:Int)) (hi:i < l.length) (hz:l.length<=900) (h:K vals own'):kSet c K mv (.ptr a) (.int x) vals own:=by
 intro v ov iv s vs ms Q a hQ
 refine Cx.AtI.el3 a λ g tk m cm ob cel frz S h1 h2 h3 hv=>?_
 refine h1.intE λ t=>?_
 refine h2.ptrE ?_
 refine S.eLst u λ pre us j post S hl q2=>?_
 refine E1_2 (hl.set h3 hi) λ q e hq=>?_
 subst hx
 refine ki_set (its:=_) S.F S.N (by exact Int.natCast_nonneg _) (by lia) (by trivial) (S.upd _) λ h' F' N'=>?_
 exact hQ _ _ _ h ⟨h',tk,m,cm,_,cel,frz,S.set F' N' (q2 _ (.lst hq)),hv⟩
end
section
variable {W:Wd} {I:Info} {r:Nat} {c:Cx W I r} {vals vals':Vs} {own own':Ow}
noncomputable def kP (P:Vs->Ow->Prop):KS:=λ fv vals own=>fv = .nx/\P vals own
theorem kP.nx {P:Vs->Ow->Prop} (h:P vals own):kP P .nx vals own:=⟨rfl,h⟩
theorem kIf.mid {b:Bool} {b1 b2 rest:List Stmt} {K:KS} (P:Vs->Ow->Prop) (h1:b=true->WS c b1 (kP P) vals own) (h2:b=false->WS c b2 (kP P) vals own) (h:∀vals own,P vals own->WS c rest K vals own):kIf c b1 b2 rest K b vals own:=by
 have key:∀ {b'},WS c b' (kP P) vals own->WS c b' (kSeq c rest K) vals own:=λ q s Q a hQ=>q s Q a λ fl fv s' v o hk ok=>hQ fl fv s' v o (by obtain ⟨rfl,hp⟩:=hk;exact h _ _ hp) ok
 induction b with
 | true=>exact key (h1 rfl)
 | false=>exact key (h2 rfl)
end
section
variable {W:Wd} {I:Info} {r:Nat} {c:Cx W I r} {vals vals':Vs} {own own':Ow}
theorem WT.mono {e:Expr} {K K':KB} (h:WT c e K vals own) (hm:∀b vals own,K b vals own->K' b vals own):WT c e K' vals own:=λ s vs ms Q a hQ=>h s vs ms Q a λ b s' v o hk=>hQ b s' v o (hm _ _ _ hk)
noncomputable def kTst (vals0:Vs) (own0:Ow) (G:Prop):KB:=λ b vals own=>vals=vals0/\own=own0/\(b=true->G)
theorem WT.tst {e:Expr} {K:KB} {G:Prop} (h:WT c e (kTst vals own G) vals own) (h1:G->K true vals own) (h0:K false vals own):WT c e K vals own:=h.mono λ b v o ⟨e1,e2,e3⟩=>by
 subst e1 e2
 induction b with
 | true=>exact h1 (e3 rfl)
 | false=>exact h0
theorem kTst.t {G:Prop} (h:G):kTst vals own G true vals own:=⟨rfl,rfl,λ zz=>h⟩
theorem kTst.f {G:Prop}:kTst vals own G false vals own:=⟨rfl,rfl,λ e=>nomatch e⟩
end
theorem Tl.frz {W:Wd} {hb:Bool} {f:Addr} {r:Nat} {args:List MV} {own:Ow} {ov:OV} (h:Tl W hb f r args own λ m o=>∃a,m = .ptr a/\o=(a,ov)::own) (fo:OV.frz ov):Rd W hb f r args own ov.mv :=
 λ fz hh zz zz zz zz zz zz zz zz zz zz zz zz zz zz zz zz ob kp vs a1 a2 a3 a4 a5 a6 a7 a8 a9 b1 b2 b3 b4 b5 b6 b7=>h fz hh _ _ _ _ _ _ _ _ _ _ _ _ _ _ _ _ ob kp vs a1 a2 a3 a4 a5 a6 a7 a8 a9 b1 b2 b3 b4 b5 b6 λ v mv own' ob' fz' h' tk' hP F' N' nd' ao' he hf ho hi=>by
  refine E1_2 hP λ a e3_1 e3_2=>?_;clear hP
  rw [e3_1] at hi;rw [e3_2] at ho
  refine hi.ptrE ?_
  revert N' nd' ao' hf
  refine ho.cn λ o ob2 h1 h2 N' nd' ao' hf=>?_
  rw [map_cons,nodup_cons] at nd'
  refine b7 (.ref a) ov.mv own ob2 ((a,o)::fz') h' tk' ⟨rfl,rfl⟩ F' (λ p hp=>N' p ?_) nd'.2 (λ p hp=>ao' p (.tail _ hp)) (λ p hp=>.tail _ (he p hp)) (λ p hp q hq=>?_) (h2.mono λ zz h=>.tail _ h) (h1.frz fo _ (λ zz h=>.tail _ h) (.head _))
  · simp only [mem_append,mem_cons] at hp ⊢;rcases hp with q | q | q | q <;> simp [q]
  · rcases mem_cons.mp hq with rfl | hq
    · rcases mem_append.mp hp with hp | hp
      · exact λ e=>nd'.1 (mem_map.mpr ⟨p,hp,e⟩)
      · exact Ne.symm (ao' _ (.head _) p hp)
    · exact hf p (by kso_open hp) q hq
section
variable {W:Wd} {I:Info} {r:Nat} {c:Cx W I r} {vals vals':Vs} {own own':Ow}
theorem kComp.own1 {ct:Option Expr} {elt:Expr} {x:Str} {sc:Scope} {Kd:Vs->List MV->Ow->Prop} {src:List MV} {a:Addr} (J:Nat->List MV->Ow->Prop) {caps:List (Str×Bool)} {u:Vs} (cap:Cap I.names vals caps u) (h0:J 0 [] own)
 (turn:∀ (c':Cx W (I.cmp ((x,false)::caps) sc) r) i mv l own,src[i]? = some mv->J i l own->WC c' ct elt J i l (some mv::u) own) (done:∀l own,J src.length l own->Kd vals l ((a,.lst src)::own)) (hz:src.length<=900)
 (hok:autoParam (okC I ((x,false)::caps) sc=true) aQ) (hcp:autoParam (I.cp=none) aR) (hhb:autoParam (I.hb=false) aR):kComp c ct elt x sc Kd (.ptr a) vals ((a,.lst src)::own):=by
 intro v s vs ms F at' hQ
 refine Cx.AtI.el1 at' λ g tk m cm ob cel frz S hi hv=>?_
 refine hi.ptrE ?_
 have ho:=S.ow
 revert S
 refine ho.cn λ o ob h1 ho=>h1.lstE λ us k ha S=>?_
 obtain ⟨-,o2⟩:=Cx.St.off (pre:=[]) S
 have hl:=ha.length
 have S1:c.S0 m cm ob cel frz vals own:=by
  have nd:=S.nd
  rw [cons_append,map_cons,nodup_cons] at nd
  exact ⟨S.k,nd.2,λ p hp=>S.ao p (by simp only [mem_append,mem_cons] at hp ⊢;rcases hp with q | q <;> simp [q]),λ p hp=>S.af p (by simp only [mem_append,mem_cons] at hp ⊢;rcases hp with q | q | q <;> simp [q]),ho,S.cc,S.kn,S.hi,S.fx,S.fm⟩
 have S2:=S1.more (it:=[(a,listOf us.toArray k)]) (fz:=frz) (λ p hp b hb e=>by
  rw [mem_singleton.mp hp] at e
  refine E1_2 (mem_map.mp hb) λ q hq e2=>?_
  exact o2 q hq (e2.trans e.symm)) λ zz h=>h
 have S0:(c.more [(a,listOf us.toArray k)] frz).St g m cm ob cel frz vals own:=S2.st S.F λ p hp=>S.N p (by
  have hp':p∈ob++(cel++(([(a,listOf us.toArray k)]++c.old)++frz)):=hp
  simp only [mem_append,mem_cons,not_mem_nil,or_false] at hp' ⊢
  rcases hp' with q | q | (q | q) | q <;> simp [q])
 refine SrcZ.list (hh:=c.hh) (m:=m) (vs:=us) (k:=k) (news:=(c.more [(a,listOf us.toArray k)] frz).all ob cel frz) rfl (S.hi.mono λ p hp=>?_) S0.F S0.N ?_ (by simp+arith [*]) λ g2=>?_
 · show p∈ob++(cel++(([(a,listOf us.toArray k)]++c.old)++frz))
   simp only [mem_append] at hp ⊢;rcases hp with a | a <;> simp [a]
 · show _∈ob++(cel++(([(a,listOf us.toArray k)]++c.old)++frz))
   simp
 rw [hl]
 refine comp_core (c:=c.more [(a,listOf us.toArray k)] frz) (Kd:=λ l own=>Kd vals l ((a,.lst src)::own)) (src:=src) J cap hcp hok h0 turn done S0 hv (λ m' cm' ob' cel' frz' own' l ys tk' g3 S3 hv3 hys hd nx hn1 hn2=>?_) (Src:=[(a,listOf us.toArray k)]) (λ p hp=>mem_append_left _ (mem_append_left _ hp)) (λ i v h=>ha.at h) λ nw hE hH=>⟨hE _ (.head _),hH⟩
 have sub1:∀p,p∈c.all ((a,listOf us.toArray k)::ob') cel' frz'↔p∈(c.more [(a,listOf us.toArray k)] frz).all ob' cel' frz':=λ p=>by
  show p∈((a,listOf us.toArray k)::ob')++(cel'++(c.old++frz'))↔p∈ob'++(cel'++(([(a,listOf us.toArray k)]++c.old)++frz'))
  simp only [mem_append,mem_cons,not_mem_nil,or_false]
  constructor
  · rintro ((q | q) | q | q | q) <;> simp [q]
  · rintro (q | q | (q | q) | q) <;> simp [q]
 have Sl:=S3.less hcp (S.fx) hhb
 have ka:(a,listOf us.toArray k)∈(c.more [(a,listOf us.toArray k)] frz).old:=mem_append_left _ (.head _)
 refine hQ m' cm' ((a,listOf us.toArray k)::ob') cel' frz' ((a,.lst src)::own') l ys tk' g3 ⟨S.k,?_,λ p hp q hq=>?_,λ p hp q hq=>?_,.cons (.lst (ha.mono S3.fx)) Sl.ow,Sl.cc,Sl.kn,Sl.hi,Sl.fx,Sl.fm⟩ hv3 hys hd nx (λ p hp=>(sub1 p).mpr (hn1 p hp)) λ p hp=>hn2 p ((sub1 p).mp hp)
 · rw [cons_append,map_cons,nodup_cons]
   refine ⟨λ q=>?_,Sl.nd⟩
   refine E1_2 (mem_map.mp q) λ p hp e=>?_
   exact S3.ao p hp _ ka e
 · rcases mem_append.mp hp with hp | hp
   · rcases mem_cons.mp hp with rfl | hp
     · exact Ne.symm (o2 q (by simp [hq]))
     · exact Sl.ao p (by simp [hp]) q hq
   · exact Sl.ao p (by simp [hp]) q hq
 · rcases mem_append.mp hp with hp | hp
   · rcases mem_cons.mp hp with rfl | hp
     · exact S3.af _ (mem_append_right _ (mem_append_right _ ka)) q hq
     · exact Sl.af p (by simp [hp]) q hq
   · exact Sl.af p (mem_append_right _ hp) q hq
end
section
variable {M:Model} {A:Around} {E:Value->Shared->Prop} {h:Heap} {g:Array GenState} {d:Drawn} {t:Nat} {os:OsState}
variable {nm q:Str} {C N P:Addr} {bs bmB:List Value} {hdct:Bool} {sn:List Str} {sub:List Value} {ab:Bool} {col:Option Bool} {dd:Option Addr} {k0 k1 k2 k3 k5:Option Value} {newId:String}
 {c0:Value} {dP:Option Addr} {cdP:ClassData} {slP:Array (Option Value)}
theorem xl_two {name:Str} {mN mP:Str->Option Value} {y:Option Value} {Q:Option Value->Shared->Prop} (hC:h.get? C=some (excClassObj nm q C N bs (.ref P::bmB) hdct sn sub ab col dd k0 k1 k2 k3 k5 newId)) (hn:h.Ns N mN)
 (hP:h.get? P=some {cls:=c0,dict:=dP,data:=.cls cdP,slots:=slP}) (hnP:h.Ns cdP.ns mP) (hr:lookupAlong bmB name=pure y)
 (hq:Q (match mN name with | some v=>some v | none=>match mP name with | some v=>some v | none=>y) ⟨h,g,d,t,os⟩):wpAny M A (typeLookup (.ref C) name) Q E ⟨h,g,d,t,os⟩:=by
 rw [typeLookup_eq]
 refine wpAny_bind (wpAny_mroOf_exc hC ?_)
 rw [lookupAlong_cons]
 refine wpAny_bind (wpAny_classOwn_exc hC hn ?_)
 cases e1:mN name with
 | some v=>rw [e1] at hq;exact wpAny_pure hq
 | none =>
  rw [e1] at hq
  show wpAny _ _ (lookupAlong (.ref P::bmB) name) _ _ _
  rw [lookupAlong_cons]
  refine wpAny_bind (wpAny_classOwn_cls hP hnP ?_)
  cases e2:mP name with
  | some v=>rw [e2] at hq;exact wpAny_pure hq
  | none=>rw [e2] at hq;rw [hr];exact wpAny_pure hq
variable {B initId:String} {bm:List Value}
theorem xl_check_new (F:ExcBaseFacts B newId initId bmB) (hB:bm.contains (.type B)=true) {rest:List Value} {Q:Unit->Shared->Prop} (hC:h.get? C=some (excClassObj nm q C N bs bm hdct sn sub ab col dd k0 k1 k2 k3 k5 newId))
 (hq:Q () ⟨h,g,d,t,os⟩):wpAny M A (checkBuiltinCall newId ⟨.ref C::rest,[]⟩) Q E ⟨h,g,d,t,os⟩:=by
 revert F hB;ctx_has M A E h g d t os nm q C N bs bmB hdct sn sub ab col dd k0 k1 k2 k3 k5 newId B initId bm rest Q
 have hcont:(Value.ref C::bm).contains (.type B)=true:=by rw [List.contains_cons,hB,Bool.or_true]
 have hstar:=F.noStar
 simp only [checkBuiltinCall,F.newKind,F.newSplit,F.newRow]
 repeat (first | refine wpAny_loadPart_at hC ?_ | (refine wpAny_isSubtype_exc hC ?_;rw [hcont]) | refine wpAny_staticBase_exc hC ?_ | refine wpAny_madeBy_exc hC ?_ | simp only [bne_self_eq_false,Bool.false_eq_true,if_false] | wp_step)
 exact hq
theorem xl_check_init (F:ExcBaseFacts B newId initId bmB) (hB:bm.contains (.type B)=true) {e:Addr} {oe:Obj} {rest:List Value} {Q:Unit->Shared->Prop}
 (hC:h.get? C=some (excClassObj nm q C N bs bm hdct sn sub ab col dd k0 k1 k2 k3 k5 newId)) (he:h.get? e=some oe) (hcls:oe.cls = .ref C) (hq:Q () ⟨h,g,d,t,os⟩) :
 wpAny M A (checkBuiltinCall initId ⟨.ref e::rest,[]⟩) Q E ⟨h,g,d,t,os⟩:=by
 revert F hB;ctx_has M A E h g d t os nm q C N bs bmB hdct sn sub ab col dd k0 k1 k2 k3 k5 newId B initId bm e oe rest Q
 have hcB:(Value.ref C::bm).contains (.type B)=true:=by rw [List.contains_cons,hB,Bool.or_true]
 have hshort:=F.noStar
 simp only [checkBuiltinCall,F.initKind,F.initSplit,F.initRow]
 repeat (first | (with_reducible refine wpAny_loadPart_at he ?_;rw [hcls]) | with_reducible refine wpAny_loadPart_at hC ?_ | (with_reducible refine wpAny_isSubtype_exc hC ?_;rw [hcB]) | wp_step)
 refine wpAny_onRaise ?_
 rw [show ∀ (a b:String) (n:Nat),Bind.check ⟨.positional,"*",B,.self,[⟨"args",.varPos,false⟩]⟩ a b n (List.map (λ x=>x.fst) ({pos:=Value.ref e::rest}:Args).kw)=pure () from
  λ a b n=>check_star_args _ _ _ _ _ _]
 exact wpAny_pure hq
end
section
variable {prog:Program} {w:World} {A:Around} {E:Value->Shared->Prop} {R:Result->Shared->Prop} {h:Heap} {g:Array GenState} {d:Drawn} {t:Nat} {os:OsState}
variable {nm q:Str} {C N P:Addr} {bs bm bmB:List Value} {hdct:Bool} {sn:List Str} {sub:List Value} {ab:Bool} {col:Option Bool} {dd:Option Addr} {k0 k1 k2 k3 k5:Option Value} {B newId initId:String}
 {c0:Value} {dP:Option Addr} {cdP:ClassData} {slP:Array (Option Value)}
theorem xl_new (F:ExcBaseFacts B newId initId bmB) (hB:bm.contains (.type B)=true) (hA:bm.contains (.type "AttributeError")=false) (hN:bm.contains (.type "NameError")=false) {rest:List Value}
 (hC:h.get? C=some (excClassObj nm q C N bs bm hdct sn sub ab col dd k0 k1 k2 k3 k5 newId))
 (hq:R (.ok (.ret (.ref (h.objs.size+1)))) ⟨(h.push {cls:=.type "tuple",data:=.seq rest.toArray}).push
  {cls:=.ref C,data:=.fields #[.ref h.objs.size,.none,.none,.none,.bool false,.none]},g,d,t,os⟩) (hrest:autoParam (rest.length<=sizeLine) aS) :
 codeAny (model prog w) A (.builtin newId ⟨.ref C::rest,[]⟩) R ⟨h,g,d,t,os⟩:=by
 revert F hB hA hN;ctx_has prog w A R h g d t os nm q C N bs bm bmB hdct sn sub ab col dd k0 k1 k2 k3 k5 B newId initId rest
 have hends:=F.ends
 have hcB:(Value.ref C::bm).contains (.type B)=true:=by rw [List.contains_cons,hB,Bool.or_true]
 have hcA:(Value.ref C::bm).contains (.type "AttributeError")=false:=by rw [List.contains_cons,hA];rfl
 have hcN:(Value.ref C::bm).contains (.type "NameError")=false:=by rw [List.contains_cons,hN];rfl
 refine codeAny_builtinAt F.entry ?_
 unfold Builtin.«BaseException.__new__»
 refine PySem.wpAt_bind ?_
 show PySem.wpAt _ _ _ (stack >>= _) _ _ _
 refine PySem.wpAt_bind (PySem.wpAt_stack λ p below=>PySem.wpAt_of_wpAny ?_)
 wp_walk
 refine PySem.wpAt_of_wpAny ?_
 rw [F.owner]
 repeat (first | with_reducible refine wpAny_madeHere_exc F.canon hC ?_ | with_reducible refine wpAny_loadPart_at hC ?_ | (with_reducible refine wpAny_isSubtype_exc hC ?_;first | rw [hcB] | rw [hcA] | rw [hcN]) | wp_step)
 show R _ _
 rw [Heap.size_push]
 exact hq
theorem xl_type_call (F:ExcBaseFacts B newId initId bmB) (hB:(Value.ref P::bmB).contains (.type B)=true) (hA:(Value.ref P::bmB).contains (.type "AttributeError")=false) (hNm:(Value.ref P::bmB).contains (.type "NameError")=false) {mN mP:Str->Option Value} {rest:List Value} {fI:Addr} {oI:Obj} {Q:Fin->Shared->Prop}
 (hC:h.get? C=some (excClassObj nm q C N bs (.ref P::bmB) hdct sn sub ab col dd k0 k1 k2 k3 k5 newId)) (hn:h.Ns N mN) (hni:mN "__init__"=none)
 (hP:h.get? P=some {cls:=c0,dict:=dP,data:=.cls cdP,slots:=slP}) (hnP:h.Ns cdP.ns mP) (hi:mP "__init__"=some (.ref fI)) (hfI:h.get? fI=some oI) (hfc:oI.cls = .type "function")
 (hq:∀h' e,Heap.MadeExcOf h h' e (.ref C) rest ->
  wpAny (model prog w) A (call (.ref fI) (.ref e::rest)) (λ r s'=>r = .none/\Q (.done (.ret (.ref e))) s') E ⟨h',g,d,t,os⟩) (hrest:autoParam (rest.length<=sizeLine) aS) :
 wpAny (model prog w) A (Builtin.«type.__call__» ⟨.ref C::rest,[]⟩) Q E ⟨h,g,d,t,os⟩:=by
 revert F hB hA hNm;ctx_has prog w A E h g d t os nm q C N P bs bmB hdct sn sub ab col dd k0 k1 k2 k3 k5 B newId initId c0 dP cdP slP mN mP rest fI oI Q
 repeat (first | with_reducible refine wpAny_loadPart_at hC ?_ | with_reducible refine wpAny_madeBy_exc hC ?_ | wp_step)
 refine codeAny_call_builtin_code (Code.quiet_builtin _ F.quiet) (xl_check_new F hB hC ?_)
 refine xl_new F hB hA hNm hC ?_ hrest
 show wpAny _ _ _ _ _ _
 have up:∀b o,h.get? b=some o->((h.push {cls:=.type "tuple",data:=.seq rest.toArray}).push {cls:=.ref C,data:=.fields #[.ref h.objs.size,.none,.none,.none,.bool false,.none]}).get? b=some o :=
  λ b o e=>Heap.get?_push_of_some _ (Heap.get?_push_of_some _ e)
 have hget:((h.push {cls:=.type "tuple",data:=.seq rest.toArray}).push
  {cls:=.ref C,data:=.fields #[.ref h.objs.size,.none,.none,.none,.bool false,.none]}).get? (h.objs.size+1)=some
  {cls:=.ref C,data:=.fields #[.ref h.objs.size,.none,.none,.none,.bool false,.none]}:=by heap_get
 have hcC:(Value.ref C::.ref P::bmB).contains (.ref C)=true:=by simp
 unfold isInstance
 repeat (first | with_reducible refine wpAny_loadPart_at hget ?_ | (with_reducible refine wpAny_isSubtype_exc (up _ _ hC) ?_;rw [hcC]) | wp_step)
 show wpAny _ _ (typeLookup (.ref C) _) _ _ _
 have hr:lookupAlong bmB "__init__"=pure (some (.builtin initId)):=by have:=F.init.lookup;rw [typeLookup_eq,F.mroIs] at this;exact this
 refine xl_two (up _ _ hC) (hn.keeps up) (up _ _ hP) (hnP.keeps up) hr ?_
 rw [hni,hi]
 refine wpAny_holding (wpAny_bind ?_)
 unfold bindSpecial
 refine wpAny_bind (wpAny_typeOf (T:="function") ⟨_,up _ _ hfI,hfc⟩ ?_)
 rw [if_pos (by decide)]
 refine wpAny_pure (wpAny_bind (wpAny_mono (hq _ (h.objs.size+1) ⟨up,Heap.get?_none_of_le (Nat.le_succ _),h.objs.size,hget,Heap.get?_none_of_le (Nat.le_refl _),?_⟩) (λ r s' hr=>?_) λ zz zz x=>x))
 · exact Heap.get?_push_of_some _ (Heap.get?_push_at rfl rfl)
 · obtain ⟨rfl,hQ⟩:=hr
   wp_walk
   exact hQ
theorem xl_call (F:ExcBaseFacts B newId initId bmB) (hB:(Value.ref P::bmB).contains (.type B)=true) (hA:(Value.ref P::bmB).contains (.type "AttributeError")=false) (hNm:(Value.ref P::bmB).contains (.type "NameError")=false) {mN mP:Str->Option Value} {rest:List Value} {fI:Addr} {oI:Obj} {Q:Value->Shared->Prop}
 (hC:h.get? C=some (excClassObj nm q C N bs (.ref P::bmB) hdct sn sub ab col dd k0 k1 k2 k3 k5 newId)) (hn:h.Ns N mN) (hni:mN "__init__"=none)
 (hP:h.get? P=some {cls:=c0,dict:=dP,data:=.cls cdP,slots:=slP}) (hnP:h.Ns cdP.ns mP) (hi:mP "__init__"=some (.ref fI)) (hfI:h.get? fI=some oI) (hfc:oI.cls = .type "function")
 (hq:∀h' e,Heap.MadeExcOf h h' e (.ref C) rest ->
  wpAny (model prog w) (A.under (.builtin "type.__call__" ⟨.ref C::rest,[]⟩)) (call (.ref fI) (.ref e::rest)) (λ r s'=>r = .none/\Q (.ref e) s') E ⟨h',g,d,t,os⟩) (hrest:autoParam (rest.length<=sizeLine) aS) :
 wpAny (model prog w) A (call (.ref C) rest) Q E ⟨h,g,d,t,os⟩:=by
 have f1:=tc_lookup
 have f2:=tc_bind (.ref C)
 have hT:(⟨h,g,d,t,os⟩:Shared).TypeIs (.ref C) "type":=⟨_,hC,rfl⟩
 refine wpAny_call (codeAny_of_tree ?_)
 show wpAny _ _ (callAny (.ref C) _) _ _ _
 repeat (any_goals (first | assumption | with_reducible refine wpAny_loadPart_at hC ?_ | wp_step))
 refine ⟨rfl,?_⟩
 refine codeAny_call_builtin_at (Code.quiet_builtin _ (by decide+kernel)) entry_typeCall (wpAny_check_type_call_sub hC (xl_type_call (hrest:=hrest) F hB hA hNm hC hn hni hP hnP hi hfI hfc λ h' e hm=>?_))
 exact hq h' e hm
theorem xl_init (F:ExcBaseFacts B newId initId bmB) (hB:bm.contains (.type B)=true) {e t0:Addr} {rest:List Value} {Q:Value->Shared->Prop}
 (hC:h.get? C=some (excClassObj nm q C N bs bm hdct sn sub ab col dd k0 k1 k2 k3 k5 newId)) (he:h.get? e=some {cls:=.ref C,data:=.fields #[.ref t0,.none,.none,.none,.bool false,.none]})
 (hq:∀h',(∀b o,b≠e->h.get? b=some o->h'.get? b=some o)->h'.get? e=some {cls:=.ref C,data:=.fields #[.ref h.objs.size,.none,.none,.none,.bool false,.none]}->h'.get? h.objs.size=some {cls:=.type "tuple",data:=.seq rest.toArray}->Q .none ⟨h',g,d,t,os⟩) (hrest:autoParam (rest.length<=sizeLine) aS) :
 wpAny (model prog w) A (call (.builtin initId) (.ref e::rest)) Q E ⟨h,g,d,t,os⟩:=by
 refine wpAny_call (codeAny_call_builtin F.init.plain F.initEntry (xl_check_init F hB hC he rfl ?_))
 wp_walk
 have he2:=Heap.get?_push_of_some {cls:=.type "tuple",data:=.seq rest.toArray} he
 refine hq _ (λ b o hb e2=>?_) ?_ ?_
 · rw [Heap.get?_update_other _ _ (Ne.symm hb)]
   exact Heap.get?_push_of_some _ e2
 · rw [Heap.get?_update_self _ he2 rfl]
   rfl
 · rw [Heap.get?_update_other _ _ (Nat.ne_of_lt (Heap.lt_size he))]
   exact Heap.get?_push_at rfl rfl
end
section
open Builtin Builtin.ObjectAttr
variable {prog:Program} {w:World} {A:Around} {E:Value->Shared->Prop} {h:Heap} {g:Array GenState} {d:Drawn} {t:Nat} {os:OsState}
variable {nm q:Str} {C N P x:Addr} {bs bmB:List Value} {sn:List Str} {sub:List Value} {ab:Bool} {col:Option Bool} {dd:Option Addr} {k0 k1 k2 k3 k5:Option Value} {B newId sa owner:String}
 {c0:Value} {dP:Option Addr} {cdP:ClassData} {slP:Array (Option Value)} {mN mP mA:Str->Option Value} {name:Str} {v:Value}
theorem xl_check_sa {o:Obj} {nameV:Value} {Q:Unit->Shared->Prop} (SF:StoreFacts B bmB sa owner)
 (hC:h.get? C=some (excClassObj nm q C N bs (.ref P::bmB) true sn sub ab col dd k0 k1 k2 k3 k5 newId)) (hx:h.get? x=some o) (hc:o.cls = .ref C) (hq:Q () ⟨h,g,d,t,os⟩) :
 wpAny (model prog w) A (checkBuiltinCall sa ⟨[.ref x,nameV,v],[]⟩) Q E ⟨h,g,d,t,os⟩:=by
 ctx_has prog w A E h g d t os nm q C N P x bs bmB sn sub ab col dd k0 k1 k2 k3 k5 B newId sa owner v o nameV Q
 have hcB:(Value.ref C::.ref P::bmB).contains (.type owner)=true:=by rw [List.contains_cons,List.contains_cons,SF.hasOwner,Bool.or_true,Bool.or_true]
 have ha:=SF.args (.ref x) nameV v
 simp only [checkBuiltinCall,SF.kind,SF.split]
 refine wpAny_bind ?_
 unfold isInstance
 repeat (first | (with_reducible refine wpAny_loadPart_at hx ?_;rw [hc]) | (with_reducible refine wpAny_isSubtype_exc hC ?_;rw [hcB]) | wp_step)
 cases hsig:Manifest.signature? sa with
 | none=>exact wpAny_pure hq
 | some sig =>
  simp only [argsOk,hsig] at ha
  have h2:Bind.checkArgs sa sig ⟨[.ref x,nameV,v],[]⟩=pure ():=ha
  show wpAny _ A (Bind.checkArgs sa sig ⟨[.ref x,nameV,v],[]⟩) Q E _
  rw [h2];exact wpAny_pure hq
set_option tactic.hygienic true in
theorem xl_entry0 {tk:Tok} {o:Obj} {Q:Fin->Shared->Prop} (SF:StoreFacts B bmB sa owner)
 (hC:h.get? C=some (excClassObj nm q C N bs (.ref P::bmB) true sn sub ab col dd k0 k1 k2 k3 k5 newId)) (hn:h.Ns N mN) (hna:mN name=none) (hP:h.get? P=some {cls:=c0,dict:=dP,data:=.cls cdP,slots:=slP}) (hnP:h.Ns cdP.ns mP) (hpa:mP name=none)
 (hB:lookupAlong bmB name=pure none) (hx:h.get? x=some o) (hc:o.cls = .ref C) (hnc:∀c,o.data≠.cls c) (hdn:o.dict=none)
 (hq:∀h' tk',h'.get? x=some {o with dict:=some h.objs.size}->h'.Ns1 h.objs.size (λ y=>if y=name then some v else none)->(∀b ob,b≠x->h.get? b=some ob->h'.get? b=some ob)->Q (.done (.ret .none)) ⟨h',g,d,tk',os⟩) :
 wpAny (model prog w) A (Builtin.«object.__setattr__» ⟨[.ref x,.str name tk,v],[]⟩) Q E ⟨h,g,d,t,os⟩:=by
 ctx_has prog w A E h g d t os nm q C N P x bs bmB sn sub ab col dd k0 k1 k2 k3 k5 B newId sa owner c0 dP cdP slP mN mP name v tk o Q
 have hpass:=SF.passes (.ref x)
 unfold Builtin.«object.__setattr__»
 repeat (first | rw [refuse_eq] | (rw [refuseLoop_ref,refuseLoop_ref,hpass]) | (with_reducible refine wpAny_loadPart_at hx ?_;rw [hc]) | with_reducible refine wpAny_mroOf_exc hC ?_ | (with_reducible refine xl_two hC hn hP hnP hB ?_;rw [hna,hpa]) | wp_step)
 rw [hdn,if_neg (by simp [typeHasDict])]
 split
 · rename_i hcd
   f_shut hcd
 split
 · rename_i c hcd
   exact absurd hcd (hnc c)
 · have hx₁:(h.push {cls:=.type "dict",data:=.dict #[]}).get? x=some o:=Heap.get?_push_of_some _ hx
   have hxs:x≠h.objs.size:=Nat.ne_of_lt (Heap.lt_size hx)
   refine wpAny_bind (wpAny_alloc' ?_)
   refine wpAny_bind (wpAny_update' hx₁ ?_)
   refine wpAny_pure ?_
   have hgd:((h.push {cls:=.type "dict",data:=.dict #[]}).update x λ o=>{cls:=o.cls,dict:=some h.objs.size,data:=o.data,slots:=o.slots}).get? h.objs.size
    = some {cls:=.type "dict",data:=.dict #[]} :=
    (Heap.get?_update_ne _ _ _ _ hxs.symm).trans (Heap.get?_push_at rfl rfl)
   have hnd:((h.push {cls:=.type "dict",data:=.dict #[]}).update x λ o=>{cls:=o.cls,dict:=some h.objs.size,data:=o.data,slots:=o.slots}).Ns h.objs.size (λ _=>none) :=
    ⟨_,#[],_,hgd,rfl,λ e he=>absurd he (by simp),λ _=>rfl⟩
   show wpAny _ _ (storeInDict h.objs.size (.str name tk) name v) _ _ _
   unfold storeInDict newKeyGuard
   refine wpAny_bind (wpAny_pure (wpAny_bind (wpAny_nsSet1 (Heap.Ns1.of_empty hnd) λ h' hn' hs=>?_)))
   ctx_has h'
   refine E3_3 (hn'.count (Within.cons name v Within.nil)) λ oD esD epD hoD hdD hcD=>?_
   ctx_has oD esD epD
   refine wpAny_bind (wpAny_lookBehind hoD (by rw [hdD];exact pastItsLine_dict (Nat.le_trans hcD (by rw [length_cons,length_nil,sizeLine_eq];exact Nat.succ_pos _))) ?_)
   wp_walk
   refine hq h' _ ((hs.2 x hxs).trans (Heap.get?_update_self _ hx₁ ?_)) hn' (λ b ob hbx hb=>?_)
   · have hfr:=(Heap.get?_some_iff.mp hx).2
     obtain ⟨oc,od,odt,osl⟩:=o
     ctx_has oc od odt osl
     cases odt <;> first | rfl | exact hfr
   · exact (hs.2 b (Nat.ne_of_lt (Heap.lt_size hb))).trans ((Heap.get?_update_ne _ _ _ _ hbx).trans (Heap.get?_push_of_some _ hb))
theorem xl_entry1 {tk:Tok} {o:Obj} {dx:Addr} {ns:List Str} {Q:Fin->Shared->Prop} (SF:StoreFacts B bmB sa owner)
 (hC:h.get? C=some (excClassObj nm q C N bs (.ref P::bmB) true sn sub ab col dd k0 k1 k2 k3 k5 newId)) (hn:h.Ns N mN) (hna:mN name=none) (hP:h.get? P=some {cls:=c0,dict:=dP,data:=.cls cdP,slots:=slP}) (hnP:h.Ns cdP.ns mP) (hpa:mP name=none)
 (hB:lookupAlong bmB name=pure none) (hx:h.get? x=some o) (hc:o.cls = .ref C) (hdx:o.dict=some dx) (hns:h.Ns1 dx mA)
 (hq:∀h' tk',h'.Ns1 dx (λ y=>if y=name then some v else mA y)->(∀b ob,b≠dx->h.get? b=some ob->h'.get? b=some ob)->Q (.done (.ret .none)) ⟨h',g,d,tk',os⟩) (hw:Within mA ns) (hsz:autoParam (ns.length<=sizeLine) aS) :
 wpAny (model prog w) A (Builtin.«object.__setattr__» ⟨[.ref x,.str name tk,v],[]⟩) Q E ⟨h,g,d,t,os⟩:=by
 have hpass:=SF.passes (.ref x)
 unfold Builtin.«object.__setattr__»
 repeat (first | rw [refuse_eq] | (rw [refuseLoop_ref,refuseLoop_ref,hpass]) | (with_reducible refine wpAny_loadPart_at hx ?_;rw [hc]) | with_reducible refine wpAny_mroOf_exc hC ?_ | (with_reducible refine xl_two hC hn hP hnP hB ?_;rw [hna,hpa]) | wp_step)
 rw [hdx]
 refine wpAny_pure ?_
 show wpAny _ _ (storeInDict dx (.str name tk) name v) _ _ _
 unfold storeInDict newKeyGuard
 refine wpAny_bind (wpAny_pure (wpAny_bind (wpAny_nsSet1 hns λ h' hn' hs=>?_)))
 refine E3_3 (hn'.count (Within.cons name v hw)) λ oD esD epD hoD hdD hcD=>?_
 refine wpAny_bind (wpAny_lookBehind hoD (by rw [hdD];exact pastItsLine_dict (Nat.le_trans hcD (by rw [length_cons];exact Nat.lt_succ_of_le (by assumption)))) ?_)
 wp_walk
 exact hq h' _ hn' λ b ob hbd hb=>(hs.2 b hbd).trans hb
theorem xl_attr0 {o:Obj} {Q:Unit->Shared->Prop} (SF:StoreFacts B bmB sa owner)
 (hC:h.get? C=some (excClassObj nm q C N bs (.ref P::bmB) true sn sub ab col dd k0 k1 k2 k3 k5 newId)) (hn:h.Ns N mN) (hna:mN name=none) (hP:h.get? P=some {cls:=c0,dict:=dP,data:=.cls cdP,slots:=slP}) (hnP:h.Ns cdP.ns mP) (hpa:mP name=none)
 (hns0:mN "__setattr__"=none) (hps0:mP "__setattr__"=none) (hB:lookupAlong bmB name=pure none) (hx:h.get? x=some o) (hc:o.cls = .ref C) (hnc:∀c,o.data≠.cls c) (hdn:o.dict=none)
 (hq:∀h' tk',h'.get? x=some {o with dict:=some h.objs.size}->h'.Ns1 h.objs.size (λ y=>if y=name then some v else none)->(∀b ob,b≠x->h.get? b=some ob->h'.get? b=some ob)->Q () ⟨h',g,d,tk',os⟩) :
 wpAny (model prog w) A (setAttr (.ref x) name v) Q E ⟨h,g,d,t,os⟩:=by
 have f3:=SF.slot.bind (.ref x)
 have hr:lookupAlong bmB "__setattr__"=pure (some (.builtin sa)):=by have:=SF.slot.lookup;rw [typeLookup_eq,SF.mro] at this;exact this
 unfold setAttr callSpecial? specialOf
 repeat (any_goals (first | assumption | (with_reducible refine wpAny_loadPart_at hx ?_;rw [hc]) | (with_reducible refine xl_two hC hn hP hnP hr ?_;rw [hns0,hps0]) | wp_step))
 refine codeAny_call_builtin SF.slot.plain SF.entry (xl_check_sa SF hC hx hc (xl_entry0 SF hC hn hna hP hnP hpa hB hx hc hnc hdn λ h' tk' a b c=>?_))
 repeat (any_goals (first | assumption | wp_step))
 exact hq h' tk' a b c
theorem xl_attr1 {o:Obj} {dx:Addr} {ns:List Str} {Q:Unit->Shared->Prop} (SF:StoreFacts B bmB sa owner)
 (hC:h.get? C=some (excClassObj nm q C N bs (.ref P::bmB) true sn sub ab col dd k0 k1 k2 k3 k5 newId)) (hn:h.Ns N mN) (hna:mN name=none) (hP:h.get? P=some {cls:=c0,dict:=dP,data:=.cls cdP,slots:=slP}) (hnP:h.Ns cdP.ns mP) (hpa:mP name=none)
 (hns0:mN "__setattr__"=none) (hps0:mP "__setattr__"=none) (hB:lookupAlong bmB name=pure none) (hx:h.get? x=some o) (hc:o.cls = .ref C) (hdx:o.dict=some dx) (hns:h.Ns1 dx mA)
 (hq:∀h' tk',h'.Ns1 dx (λ y=>if y=name then some v else mA y)->(∀b ob,b≠dx->h.get? b=some ob->h'.get? b=some ob)->Q () ⟨h',g,d,tk',os⟩) (hw:Within mA ns) (hsz:autoParam (ns.length<=sizeLine) aS) :
 wpAny (model prog w) A (setAttr (.ref x) name v) Q E ⟨h,g,d,t,os⟩:=by
 have f3:=SF.slot.bind (.ref x)
 have hr:lookupAlong bmB "__setattr__"=pure (some (.builtin sa)):=by have:=SF.slot.lookup;rw [typeLookup_eq,SF.mro] at this;exact this
 unfold setAttr callSpecial? specialOf
 repeat (any_goals (first | assumption | (with_reducible refine wpAny_loadPart_at hx ?_;rw [hc]) | (with_reducible refine xl_two hC hn hP hnP hr ?_;rw [hns0,hps0]) | wp_step))
 refine codeAny_call_builtin SF.slot.plain SF.entry (xl_check_sa SF hC hx hc (xl_entry1 SF hC hn hna hP hnP hpa hB hx hc hdx hns (λ h' tk' a b=>?_) hw hsz))
 repeat (any_goals (first | assumption | wp_step))
 exact hq h' tk' a b
end
section
variable {prog:Program} {w:World} {A:Around} {E:Value->Shared->Prop} {s:Shared} {h₀:Heap} {L e t0:Addr} {m:Str->Option Value} {news:Lg} {K:Frag}
noncomputable abbrev oExc (C t0:Addr) (d:Option Addr):Obj:={cls:=.ref C,dict:=d,data:=.fields #[.ref t0,.none,.none,.none,.bool false,.none]}
noncomputable abbrev oTupE (vs:List Value):Obj:={cls:=.type "tuple",data:=.seq vs.toArray}
noncomputable abbrev exB:List Value:=[.type "Exception",.type "BaseException",.type "object"]
noncomputable def TwoCls (K:Frag) (C P:Addr):Prop:=∀G:Prop,(∀nm q N bs sn sub ab col dd k0 k1 k2 k3 k5 c0 dP cdP slP,K.lookup C=some (excClassObj nm q C N bs (.ref P::exB) true sn sub ab col dd k0 k1 k2 k3 k5 "Exception.__new__")->K.lookup P=some {cls:=c0,dict:=dP,data:=.cls cdP,slots:=slP} ->
 nsOkIn K N=true->nsOkIn K cdP.ns=true->(∀x∈[Str.ofString "what",Str.ofString "at",Str.ofString "__setattr__",Str.ofString "__init__"],nsIn K N x=some none)->(∀x∈[Str.ofString "what",Str.ofString "at",Str.ofString "__setattr__"],nsIn K cdP.ns x=some none)->G)->G
theorem fr_but {h h':Heap} (F:Fr h₀ L h m) {x y:Addr} (hx:x≠L) (hy:y≠L) (nx:h₀.get? x=none) (ny:h₀.get? y=none) (k:∀b o,b≠x->b≠y->h.get? b=some o->h'.get? b=some o):Fr h₀ L h' m :=
 ⟨F.ns.at' λ o e=>k L o (Ne.symm hx) (Ne.symm hy) e,λ b o e=>k b o (λ q=>by rw [q,nx] at e;f_shut e) (λ q=>by rw [q,ny] at e;f_shut e) (F.keep b o e),F.above⟩
theorem xl_init_L {v:Value} {C P:Addr} {Q:Value->Shared->Prop} (X₀:K.In h₀) (hT:TwoCls K C P) (F:Fr h₀ L s.heap m) (N:News h₀ L s.heap ((e,oExc C t0 none)::news)) (hne:∀p∈news,p.1≠e)
 (h:∀h' t2,Fr h₀ L h' m->News h₀ L h' ((e,oExc C t2 none)::(t2,oTupE [v])::news)->(∀p∈(e,oExc C t0 none)::news,p.1 < t2)->Q .none {s with heap:=h'}) :
 wpAny (model prog w) A (call (.builtin "Exception.__init__") [.ref e,v]) Q E s:=by
 refine hT _ λ nm q N0 bs sn sub ab col dd k0 k1 k2 k3 k5 c0 dP cdP slP hC hP n1 n2 n3 n4=>?_
 have X:=X₀.keeps F.keep
 obtain ⟨he,heL,he0⟩:=N _ (.head _)
 obtain ⟨hp,g,d,tk,os⟩:=s
 refine xl_init PySem.F.excBase_Exception (by rfl) (X _ _ hC) he (λ h' k1 k2 k3=>?_) (by show (1:Nat)<=sizeLine;size_fits)
 have hz:hp.objs.size≠L:=Nat.ne_of_gt F.ns.lt
 have hz0:h₀.get? hp.objs.size=none:=none_at_size F
 refine h h' hp.objs.size (fr_but F heL hz he0 hz0 λ b o b1 b2 e=>k1 b o b1 e) (λ p hp=>?_) (λ p hp=>Heap.lt_size (N p hp).1)
 rcases mem_cons.mp hp with rfl | hp
 · exact ⟨k2,heL,he0⟩
 rcases mem_cons.mp hp with rfl | hp
 · exact ⟨k3,hz,hz0⟩
 · have q:=N p (.tail _ hp)
   exact ⟨k1 _ _ (hne p hp) q.1,q.2⟩
noncomputable def IsNs1 (o:Obj) (a:Addr) (mA:Str->Option Value):Prop:=∀h:Heap,h.get? a=some o->h.Ns1 a mA
theorem xl_attr0_L {C P:Addr} {name:Str} {v:Value} {Q:Unit->Shared->Prop} (X₀:K.In h₀) (hT:TwoCls K C P) (hn:name∈[Str.ofString "what",Str.ofString "at"]) (hB:lookupAlong exB name=pure none) (F:Fr h₀ L s.heap m) (N:News h₀ L s.heap ((e,oExc C t0 none)::news)) (hne:∀p∈news,p.1≠e)
 (h:∀h' dx oD tk,Fr h₀ L h' m->News h₀ L h' ((e,oExc C t0 (some dx))::(dx,oD)::news)->IsNs1 oD dx (λ y=>if y=name then some v else none)->(∀p∈(e,oExc C t0 none)::news,p.1 < dx)->Q () {s with heap:=h',toks:=tk}) :
 wpAny (model prog w) A (setAttr (.ref e) name v) Q E s:=by
 ctx_has prog w A E s h₀ L e t0 m news K C P name v Q
 refine hT _ λ nm q N0 bs sn sub ab col dd k0 k1 k2 k3 k5 c0 dP cdP slP hC hP n1 n2 n3 n4=>?_
 have X:=X₀.keeps F.keep
 obtain ⟨he,heL,he0⟩:=N _ (.head _)
 obtain ⟨hp,g,d,tk,os⟩:=s
 have hn3:name∈[Str.ofString "what",Str.ofString "at",Str.ofString "__setattr__",Str.ofString "__init__"]:=by simp at hn ⊢;exact hn.imp id .inl
 have hn4:name∈[Str.ofString "what",Str.ofString "at",Str.ofString "__setattr__"]:=by simp at hn ⊢;exact hn.imp id .inl
 refine xl_attr0 PySem.F.store_Exception (X _ _ hC) (.of_isNs (isNs_of_in X n1)) (nsMap_none_of_in X n1 (n3 _ hn3)) (X _ _ hP) (.of_isNs (isNs_of_in X n2)) (nsMap_none_of_in X n2 (n4 _ hn4)) (nsMap_none_of_in X n1 (n3 _ (by trivial))) (nsMap_none_of_in X n2 (n4 _ (by trivial))) hB he rfl (λ c q=>by f_shut q) rfl λ h' tk' a b c=>?_
 have hz:hp.objs.size≠L:=Nat.ne_of_gt F.ns.lt
 have hz0:h₀.get? hp.objs.size=none:=none_at_size F
 obtain ⟨oD,es,ep,d1,d2,d3,d4,d5⟩:=id b
 refine h h' hp.objs.size oD tk' (fr_but F heL hz he0 hz0 λ b o b1 b2 e=>c b o b1 e) (λ p hp=>?_) (λ h2 e2=>⟨oD,es,ep,e2,d2,d3,d4,d5⟩) (λ p hp=>Heap.lt_size (N p hp).1)
 rcases mem_cons.mp hp with rfl | hp
 · exact ⟨a,heL,he0⟩
 rcases mem_cons.mp hp with rfl | hp
 · exact ⟨d1,hz,hz0⟩
 · have q:=N p (.tail _ hp)
   exact ⟨c _ _ (hne p hp) q.1,q.2⟩
theorem xl_attr1_L {C P dx:Addr} {oD:Obj} {mA:Str->Option Value} {ns:List Str} {name:Str} {v:Value} {Q:Unit->Shared->Prop} (X₀:K.In h₀) (hT:TwoCls K C P) (hn:name∈[Str.ofString "what",Str.ofString "at"]) (hB:lookupAlong exB name=pure none) (F:Fr h₀ L s.heap m) (N:News h₀ L s.heap ((e,oExc C t0 (some dx))::(dx,oD)::news)) (hne:∀p∈news,p.1≠dx) (hed:e≠dx)
 (hD:IsNs1 oD dx mA) (hw:Within mA ns) (hsz:ns.length<=sizeLine)
 (h:∀h' oD' tk,Fr h₀ L h' m->News h₀ L h' ((e,oExc C t0 (some dx))::(dx,oD')::news)->Q () {s with heap:=h',toks:=tk}) :
 wpAny (model prog w) A (setAttr (.ref e) name v) Q E s:=by
 ctx_has prog w A E s h₀ L e t0 m news K C P dx oD mA ns name v Q
 refine hT _ λ nm q N0 bs sn sub ab col dd k0 k1 k2 k3 k5 c0 dP cdP slP hC hP n1 n2 n3 n4=>?_
 have X:=X₀.keeps F.keep
 obtain ⟨he,heL,he0⟩:=N _ (.head _)
 obtain ⟨hd,hdL,hd0⟩:=N _ (.tail _ (.head _))
 obtain ⟨hp,g,d,tk,os⟩:=s
 have hn3:name∈[Str.ofString "what",Str.ofString "at",Str.ofString "__setattr__",Str.ofString "__init__"]:=by simp at hn ⊢;exact hn.imp id .inl
 have hn4:name∈[Str.ofString "what",Str.ofString "at",Str.ofString "__setattr__"]:=by simp at hn ⊢;exact hn.imp id .inl
 refine xl_attr1 PySem.F.store_Exception (X _ _ hC) (.of_isNs (isNs_of_in X n1)) (nsMap_none_of_in X n1 (n3 _ hn3)) (X _ _ hP) (.of_isNs (isNs_of_in X n2)) (nsMap_none_of_in X n2 (n4 _ hn4)) (nsMap_none_of_in X n1 (n3 _ (by trivial))) (nsMap_none_of_in X n2 (n4 _ (by trivial))) hB he rfl rfl (hD _ hd) (λ h' tk' a b=>?_) hw hsz
 obtain ⟨oD',es,ep,d1,d2,d3,d4,d5⟩:=id a
 refine h h' oD' tk' (fr_but F hdL hdL hd0 hd0 λ x o x1 x2 e=>?_) (λ p hp=>?_)
 · exact b _ o x1 e
 rcases mem_cons.mp hp with rfl | hp
 · exact ⟨b _ _ hed he,heL,he0⟩
 rcases mem_cons.mp hp with rfl | hp
 · exact ⟨d1,hdL,hd0⟩
 · have q:=N p (.tail _ (.tail _ hp))
   exact ⟨b _ _ (hne p hp) q.1,q.2⟩
end
theorem exB_what:lookupAlong exB (Str.ofString "what")=pure none:=by rw [show lookupAlong exB (Str.ofString "what")=typeLookup (.type "Exception") (Str.ofString "what") from by rw [typeLookup_eq,PySem.F.excBase_Exception.mroIs];rfl,typeLookup_type,builtinLookup_eq_fast];kernel_rfl
theorem exB_at:lookupAlong exB (Str.ofString "at")=pure none:=by rw [show lookupAlong exB (Str.ofString "at")=typeLookup (.type "Exception") (Str.ofString "at") from by rw [typeLookup_eq,PySem.F.excBase_Exception.mroIs];rfl,typeLookup_type,builtinLookup_eq_fast];kernel_rfl
theorem two_tf (w:World):TwoCls (Mine.hd.heap_1 w.params) 59 46 :=
 λ zz k=>k _ _ _ _ _ _ _ _ _ _ _ _ _ _ _ _ _ _ rfl rfl (by kernel_rfl) (by kernel_rfl) (λ x hx=>by simp at hx;rcases hx with rfl | rfl | rfl | rfl <;> kernel_rfl) λ x hx=>by simp at hx;rcases hx with rfl | rfl | rfl <;> kernel_rfl
theorem meta_exc:typeOf (.type "Exception")=pure (.type "type"):=by first | rfl | kernel_rfl | decide
noncomputable def Halt (p:Prop):Prop:=p
theorem Halt.out {p:Prop} (h:Halt p):p:=h
section
variable {A B C:Lg}
theorem sub_cons {x:Addr×Obj} (h1:x∈C) (h2:∀p∈B,p∈C):∀p∈x::B,p∈C:=λ p h=>(mem_cons.mp h).elim (λ e=>e ▸ h1) (h2 p)
theorem sub_t {x:Addr×Obj} (h:∀p∈A,p∈C):∀p∈A,p∈x::C:=λ p hp=>List.mem_cons_of_mem _ (h p hp)
theorem sub_id:∀p∈A,p∈A:=λ zz h=>h
end
set_option tactic.hygienic true in
theorem ns_val_of {K:Frag} {h:Heap} {N:Addr} {mg:Str->Option Value} {n:Str} {v:Value} (X:K.In h) (G:h.Ns N mg) (e:nsIn K N n=some (some v)):mg n=some v:=by
 ctx_has K h N mg n v
 obtain ⟨o,es,ep,ho,hd,_,hf⟩:=G
 ctx_has o es ep
 unfold nsIn at e
 split at e
 · rename_i c d es' n' sl q
   ctx_has c d es' n' sl
   have:=X _ _ q
   rw [ho] at this
   cases this
   cases hd
   split at e
   · rename_i x he
     rw [←hf]
     unfold nsFind findBy
     rw [←Array.find?_toList,he]
     simpa using e
   · split at e <;> cases e
 · cases e
theorem nsMap_val_of {K:Frag} {h:Heap} {N:Addr} {x:Str} {v:Value} (X:K.In h) (e:nsOkIn K N=true) (q:nsIn K N x=some (some v)):h.nsMap N x=some v:=ns_val_of X (.of_isNs (isNs_of_in X e)) q
section
local macro_rules | `(tactic| k_mem) => `(tactic| first | exact List.mem_cons_self | (refine List.mem_cons_of_mem _ ?_;k_mem) | exact mem_up (by assumption) (by kpc_g))
local macro_rules | `(tactic| walk_at "getMethod type:Exception") => `(tactic| (k_here;refine' method_type ?F ?X ?m (by decide+kernel) ?e ?h ?_;(case F=>k_asm);(case X=>k_asm);(case m=>exact meta_exc);(case e=>k_dflt k_is);(case h=>k_handed)))
local macro_rules | `(tactic| walk_at "call builtin:Exception.__init__") => `(tactic| (k_here;refine Halt.out ?_;walk_say "HALT init"))
local macro_rules | `(tactic| walk_at "setAttr ref") => `(tactic| (k_here;refine Halt.out ?_;walk_say "HALT setAttr"))
set_option tactic.hygienic true in
theorem tf_ok (w:World) (mean) (mg mb) (v:Value) (news:Lg) :
 ∀ (dp un:Nat) (gd:Option (List Code)) (cn:Str) (cs:Scope) (a:Addr) (ccd:Value) (cl:List (Str×Addr)) (outer:List Env) (A₀:Around) (base h₀:Heap) (L:Addr) (m:Str->Option Value) (s:Shared) (Q E:Value->Shared->Prop),
 Below A₀ base outer h₀->Fr h₀ L s.heap m->(Mine.hd.heap_1 w.params).In h₀->News h₀ L s.heap news->Top V (looseW V [Str.ofString "PaperError",Str.ofString "told_objects"]) mean mg mb h₀->cs.kind = .function ->
 dp+2 < recursionLimit->un+16 < cLine ->
 (∀h' e t0 dx oD tk,Fr h₀ L h' m->News h₀ L h' ((e,oExc 59 t0 (some dx))::(t0,oTupE [v])::(dx,oD)::news)->(∀p∈news,p.1≠e/\p.1≠t0/\p.1≠dx)->e≠t0->e≠dx->t0≠dx->Q (.ref e) {s with heap:=h',toks:=tk}) ->
  wpAny (model PySem.Challenge.rw_qz0082_01.row.prog w) (ktrTop dp un gd cn cs L a ccd cl outer) (call (.ref 59) [v]) Q E s:=by
 k_fill
 intro dp un gd cn cs a ccd cl outer A₀ base h₀ L m s Q E B F X Nw Tp hk hd' hu hQ
 refine two_tf w _ λ nm q N0 bs sn sub ab col dd k0 k1 k2 k3 k5 c0 dP cdP slP hC hP n1 n2 n3 n4=>?_
 have Xs:=X.keeps F.keep
 obtain ⟨hp,g,d,tk,os⟩:=s
 refine E1_2 (show ∃oI,(Mine.hd.heap_1 w.params).lookup 36=some oI/\oI.cls = .type "function" from ⟨_,rfl,rfl⟩) λ oI hI1 hI2=>?_
 have hin:nsIn (Mine.hd.heap_1 w.params) cdP.ns (Str.ofString "__init__")=some (some (.ref 36)):=by
  have:(Mine.hd.heap_1 w.params).lookup 46=some {cls:=c0,dict:=dP,data:=.cls cdP,slots:=slP}:=hP
  cases this
  kernel_rfl
 refine xl_call PySem.F.excBase_Exception (by rfl) (by rfl) (by rfl) (Xs _ _ hC) (.of_isNs (isNs_of_in Xs n1)) (nsMap_none_of_in Xs n1 (n3 _ (by trivial))) (Xs _ _ hP) (.of_isNs (isNs_of_in Xs n2)) (nsMap_val_of Xs n2 hin) (Xs _ _ hI1) hI2 (λ h' e made=>?_) (by show (1:Nat)<=sizeLine;size_fits)
 obtain ⟨t0,m1,m2,m3⟩:=made.there
 have F1:Fr h₀ L h' m:=F.keeps made.keeps
 have N1:News h₀ L h' news:=λ p hp=>⟨made.keeps _ _ (Nw p hp).1,(Nw p hp).2⟩
 have e0:h₀.get? e=none:=by
  cases q:h₀.get? e with
  | none=>rfl
  | some o=>have:=F.keep _ _ q;rw [made.new] at this;cases this
 have N2:=News.more F1 N1 m1 (λ es n q=>by cases q) e0
 have hnew:∀p∈news,p.1≠e:=λ p hp q=>by have:=(Nw p hp).1;rw [q] at this;exact absurd (this.symm.trans made.new) (by simp)
 refine wpAny_call ?_
 k_dflt (refine' code_def (binds:=[(Str.ofString "self",.ref e),(Str.ofString "what",v),(Str.ofString "at",.int (-1) 209)]) ?k1 ?k2 ?k3 ?k4 ?k5 ?kA ?kF ?kK ?k6 ?k7 ?k8 ?k9 ?kB ?_ ?c2 ?c3 ?c4 ?c5)
 (case kA=>exact rfl)
 (case kF=>exact rfl)
 (case kK=>assumption)
 (case k1=>k_asm)
 (case k2=>exact F1)
 (case k3=>k_asm)
 (case k4=>exact N2)
 (case k5=>k_asm)
 (case k6=>k_is)
 (case k7=>k_is)
 (case k8=>ktr_room)
 (case k9=>exact binds_K (X.keeps F1.keep) rfl (by k_is) rfl rfl rfl)
 (case kB=>exact locs rfl)
 (case c5=>decide)
 (case c2=>exact rfl)
 (case c3=>exact rfl)
 (case c4=>exact rfl)
 k_steps
 unfold Halt
 refine xl_init_L (P:=46) (by k_asm) (two_tf w) (by k_asm) (by k_asm) hnew λ h2 t2 F2 N2' lt2=>?_
 k_steps
 unfold Halt
 refine xl_attr0_L (P:=46) (by k_asm) (two_tf w) (by trivial) exB_what (by k_asm) (by k_asm) (λ p hp=>?_) λ h3 dx oD tk3 F3 N3 D3 lt3=>?_
 · rcases mem_cons.mp hp with rfl | hp
   · exact Nat.ne_of_gt (lt2 _ (.head _))
   · exact hnew _ hp
 k_steps
 unfold Halt
 refine xl_attr1_L (P:=46) (ns:=[Str.ofString "what"]) (by k_asm) (two_tf w) (by trivial) exB_at (by k_asm) (by k_asm) (λ p hp=>?_) ?_ D3 (Within.cons _ _ Within.nil) (by size_fits) λ h4 oD' tk4 F4 N4=>?_
 · exact Nat.ne_of_lt (lt3 _ (.tail _ hp))
 · exact Nat.ne_of_lt (lt3 _ (.head _))
 k_steps
 refine hQ h4 e t2 dx oD' tk4 (by assumption) ?_ (λ p hp=>⟨hnew p hp,Nat.ne_of_lt (lt2 _ (.tail _ hp)),Nat.ne_of_lt (lt3 _ (.tail _ (.tail _ hp)))⟩) (Nat.ne_of_lt (lt2 _ (.head _))) (Nat.ne_of_lt (lt3 _ (.head _))) (Nat.ne_of_lt (lt3 _ (.tail _ (.head _))))
 rename News h₀ L _ (_::_::_)=>NZ
 exact News.sub NZ (sub_cons (.head _) (sub_cons (.tail _ (.tail _ (.head _))) (sub_cons (.tail _ (.head _)) (sub_t (sub_t (sub_t sub_id))))))
end
section
variable {M:Model} {A:Around} {E:Value->Shared->Prop} {s:Shared}
noncomputable def TrC (h base:Heap) (e:Addr) (cls a0 fl:Value):Prop :=
 ∃oe vs T oT ts,h.get? e=some oe/\(oe.cls=cls/\vs[0]? = some a0/\vs[2]? = some .none)/\oe.data = .fields vs/\vs[1]? = some (.ref T)/\base.get? T=none/\T≠e/\h.get? T=some oT/\oT.data = .fields ts/\ts[3]? = some fl
noncomputable def NtC (base:Heap) (l:List Env) (e:Addr) (cls a0 fl:Value) (h h':Heap):Prop :=
 base.StaysIn h'/\h'.FunFrames base l/\TrC h' base e cls a0 fl/\h.UpToSlots h'
noncomputable def FlC (base:Heap) (l:List Env) (e:Addr) (cls a0 fl:Value) (h:Heap):Prop:=base.StaysIn h/\base.get? e=none/\h.FunFrames base l/\TrC h base e cls a0 fl
theorem FlC.first {base h:Heap} {l:List Env} {e:Addr} {cls a0 fl:Value} (x:FlC base l e cls a0 fl h):∃oe vs,h.get? e=some oe/\oe.cls=cls/\oe.data = .fields vs/\vs[0]? = some a0/\vs[2]? = some .none:=by
 ctx_has base h l e cls a0 fl
 obtain ⟨_,_,_,oe,vs,T,oT,ts,a,b,c,_⟩:=x
 exact ⟨oe,vs,a,b.1,c,b.2.1,b.2.2⟩
theorem xs_entry {base:Heap} {env:Env} {outer:List Env} {L e:Addr} {oe:Obj} {vs:Array Value} {head a0:Value} {hadNext:Bool} {Q:Unit->Shared->Prop}
 (hfr:A.frames=some (env::outer)) (hl:s.heap.FunFrames base (env::outer)) (hf:env.frame=some L)
 (he:s.heap.get? e=some oe) (hkb:base.StaysIn s.heap) (hen:base.get? e=none) (hd:oe.data = .fields vs) (hsz:1 < vs.size) (h0:vs[0]? = some a0) (h2:vs[2]? = some .none)
 (h:∀h',NtC base (env::outer) e oe.cls a0 (rawInt L) s.heap h'->Q () {s with heap:=h'}) :
 wpAny M A (do let a ← frameOf env;let pl ← entryPlaceOf L hadNext;let b ← EntryCells.newEntry head a .none (rawInt L) .none pl;setField (.ref e) 1 b) Q E s:=by
 ctx_has M A E s base env outer L e oe vs head a0 hadNext Q
 have hene:e∉(env::outer).filterMap (λ zz=>zz.frame):=λ hm=>by
  obtain ⟨_,o,ho,hnf⟩:=hl.mem hm
  rw [he] at ho;f_shut ho;exact hnf vs hd
 refine wpAny_bind (wpAny_frameOf_fun hfr hl hf λ g₁ hs₁=>?_)
 ctx_has g₁
 refine wpAny_bind (wpAny_entryPlaceOf λ pl hpl=>?_)
 ctx_has pl
 unfold EntryCells.newEntry newFields
 refine wpAny_bind (wpAny_newObj_type ?_ (hpl.sizeOk5 _ _ _ _ _))
 have he₁:g₁.get? e=some oe:=(hs₁.2.1 e hene).trans he
 have kb₁:base.StaysIn g₁:=λ b o hbo=>(hs₁.2.1 b λ hm=>by rw [(hl.mem hm).1] at hbo;f_shut hbo).trans (hkb b o hbo)
 generalize hX:({cls:=.type "traceback",dict:=none,data:=.fields ([head,.ref L,.none,rawInt L,.none]++(if pl.isEmpty then List.replicate 6 Value.none else pl)).toArray}:Obj)=oT
 ctx_has oT
 have hXd:∃ts,oT.data = .fields ts/\ts[3]? = some (rawInt L):=by
  subst hX
  exact ⟨_,rfl,by first | (trivial;done) | (rcases hpl with rfl | ⟨_,_,_,_,_,_,_,rfl⟩ <;> simp)⟩
 refine E1_2 hXd λ ts ht1 ht3=>?_;ctx_has ts;clear hXd
 have he₂:=Heap.get?_push_of_some (h:=g₁) oT he₁
 refine wpAny_setField he₂ hd hsz (h _ ?_)
 have hTe:g₁.objs.size≠e:=Nat.ne_of_gt (Heap.lt_size he₁)
 have hd₃:=Obj.data_mapFields hd (·.setIfInBounds 1 (Value.ref g₁.objs.size))
 have he₃:=Heap.get?_update_self (Obj.mapFields (·.setIfInBounds 1 (Value.ref g₁.objs.size))) he₂ (Obj.isFreed_of_fields hd₃)
 have hTp:(g₁.push oT).get? g₁.objs.size=some oT:=Heap.get?_push_size g₁ (by subst hX;rfl)
 have keep:∀b o,b≠e->(g₁.push oT).get? b=some o->((g₁.push oT).update e (Obj.mapFields (·.setIfInBounds 1 (Value.ref g₁.objs.size)))).get? b=some o:=λ b o hbe hb=>by
  rw [Heap.get?_update_other _ _ (Ne.symm hbe)];exact hb
 have nr:∀b o,s.heap.get? b=some o->(∀vs,o.data≠.fields vs)->b≠e:=λ b o hb hnf q=>by
  rw [q,he] at hb;f_shut hb;exact hnf vs hd
 refine ⟨λ b o hbo=>keep b o (λ q=>by rw [q,hen] at hbo;f_shut hbo) (Heap.get?_push_of_some _ (kb₁ b o hbo)),hl.of_keeps λ b o hb hnf=>?_,?_,λ b o hb hnf=>?_⟩
 · obtain ⟨sl,hs⟩:=hs₁.2.2 b o hb
   exact ⟨_,keep b _ (nr b o hb hnf) (Heap.get?_push_of_some _ hs),rfl⟩
 · exact ⟨_,_,g₁.objs.size,_,ts,he₃,⟨Obj.cls_mapFields _ _,by rw [Array.getElem?_setIfInBounds_ne (by decide)];exact h0,by rw [Array.getElem?_setIfInBounds_ne (by decide)];exact h2⟩,hd₃,by simp [hsz],kb₁.fresh,hTe,keep _ _ hTe hTp,ht1,ht3⟩
 · obtain ⟨sl,hs⟩:=hs₁.2.2 b o hb
   exact ⟨sl,keep b _ (nr b o hb hnf) (Heap.get?_push_of_some _ hs)⟩
theorem xs_flight {base:Heap} {l:List Env} {e:Addr} {cls a0 fl:Value} {Q:Unit->Shared->Prop} (hF:FlC base l e cls a0 fl s.heap)
 (h:∀h',FlC base l e cls a0 .none h'->s.heap.UpToSlots h'->Q () {s with heap:=h'}) :
 wpAny M A (setFlight (.ref e) none) Q E s:=by
 ctx_has M A E s base l e cls a0 fl Q
 obtain ⟨hkb,hen,hl,oe,vs,T,oT,ts,he,hcls,hd,h1,hnT,hTe,hT,hdT,h3⟩:=hF
 ctx_has oe vs T oT ts
 have hsz3:3 < ts.size:=(Array.getElem?_eq_some_iff.mp h3).1
 have other:∀b,b≠T->(s.heap.update T (Obj.mapFields (·.setIfInBounds 3 ((none:Option Addr).elim Value.none λ f=>rawInt f)))).get? b=s.heap.get? b :=
  λ b hb=>Heap.get?_update_other _ _ (Ne.symm hb)
 have nr:∀b o,s.heap.get? b=some o->(∀vs,o.data≠.fields vs)->b≠T:=λ b o hb hnf q=>by
  rw [q,hT] at hb;f_shut hb;exact hnf ts hdT
 unfold setFlight
 refine wpAny_bind (wpAny_field he hd h1 ?_)
 rw [if_pos (show (Value.ref T != Value.none)=true from by trivial)]
 refine wpAny_setField hT hdT hsz3 (h _ ⟨λ b o hbo=>(other b λ q=>by rw [q,hnT] at hbo;f_shut hbo).trans (hkb b o hbo),hen,
  hl.of_keeps λ b o hb hnf=>⟨o,(other b (nr b o hb hnf)).trans hb,rfl⟩,?_⟩ λ b o hb hnf=>⟨o.slots,(other b (nr b o hb hnf)).trans hb⟩)
 exact ⟨oe,vs,T,_,_,(other e (Ne.symm hTe)).trans he,hcls,hd,h1,hnT,hTe,Heap.get?_update_self _ hT (Obj.isFreed_of_fields (Obj.data_mapFields hdT _)),Obj.data_mapFields hdT _,by simp [hsz3]⟩
theorem xs_leave_first {base:Heap} {env:Env} {outer:List Env} {L e:Addr} {oe:Obj} {vs:Array Value} {a0:Value} {Q:Unit->Shared->Prop}
 (hfr:A.frames=some (env::outer)) (hl:s.heap.FunFrames base (env::outer)) (hf:env.frame=some L)
 (he:s.heap.get? e=some oe) (hkb:base.StaysIn s.heap) (hen:base.get? e=none) (hd:oe.data = .fields vs) (h1:vs[1]? = some .none) (h0:vs[0]? = some a0) (h2:vs[2]? = some .none)
 (h:∀h',FlC base outer e oe.cls a0 .none h'->s.heap.UpToSlots h'->Q () {s with heap:=h'}):wpAny M A (leaving env (.ref e)) Q E s:=by
 unfold leaving noteFrame
 simp only [hf]
 refine wpAny_bind (wpAny_bind (wpAny_field he hd h1 ?_))
 rw [if_neg (by decide)]
 refine xs_entry hfr hl hf he hkb hen hd (Array.getElem?_eq_some_iff.mp h1).1 h0 h2 λ h₁ hN=>?_
 refine xs_flight (s:={s with heap:=h₁}) ⟨hN.1,hen,hN.2.1,hN.2.2.1⟩ λ h₂ hF hs=>?_
 obtain ⟨a,b,⟨_,_,c⟩,d⟩:=hF
 exact h h₂ ⟨a,b,c,d⟩ (hN.2.2.2.trans hs)
theorem xs_look {base:Heap} {env:Env} {outer:List Env} {L e:Addr} {cls a0:Value} {Q:Unit->Shared->Prop}
 (hfr:A.frames=some (env::outer)) (hf:env.frame=some L) (hF:FlC base (env::outer) e cls a0 .none s.heap)
 (h:∀h',FlC base (env::outer) e cls a0 (rawInt L) h'->s.heap.UpToSlots h'->Q () {s with heap:=h'}):wpAny M A (noteFrame (.ref e) env) Q E s:=by
 ctx_has M A E s base env outer L e cls a0 Q
 obtain ⟨hkb,hen,hl,oe,vs,T,oT,ts,he,⟨hcls,h0,h2⟩,hd,h1,hnT,hTe,hT,hdT,h3⟩:=hF
 ctx_has oe vs T oT ts
 subst hcls
 unfold noteFrame
 simp only [hf]
 refine wpAny_bind (wpAny_field he hd h1 ?_)
 rw [if_pos (show (Value.ref T != Value.none)=true from by trivial)]
 refine wpAny_bind (wpAny_field hT hdT h3 ?_)
 rw [if_neg (show ¬ ((Value.none == rawInt L)=true) from by simp [rawInt])]
 refine wpAny_bind (wpAny_setField hT hdT (Array.getElem?_eq_some_iff.mp h3).1 ?_)
 have other:∀b,b≠T->(s.heap.update T (Obj.mapFields (·.setIfInBounds 3 Value.none))).get? b=s.heap.get? b:=λ b hb=>Heap.get?_update_other _ _ (Ne.symm hb)
 have nr:∀b o,s.heap.get? b=some o->(∀vs,o.data≠.fields vs)->b≠T:=λ b o hb hnf q=>by
  rw [q,hT] at hb;f_shut hb;exact hnf ts hdT
 refine xs_entry (s:={s with heap:=s.heap.update T (Obj.mapFields (·.setIfInBounds 3 Value.none))}) hfr (hl.of_keeps λ b o hb hnf=>⟨o,(other b (nr b o hb hnf)).trans hb,rfl⟩) hf ((other e (Ne.symm hTe)).trans he)
  (λ b o hbo=>(other b λ q=>by rw [q,hnT] at hbo;f_shut hbo).trans (hkb b o hbo)) hen hd (Array.getElem?_eq_some_iff.mp h1).1 h0 h2
  λ h' ⟨x1,x2,x3,x4⟩=>h h' ⟨x1,hen,x2,x3⟩ λ b o hb hnf=>x4 b o ((other b (nr b o hb hnf)).trans hb) hnf
end
noncomputable def RaisedC (base G:Heap) (l:List Env) (e:Addr) (cls:Value) (t:Addr) (news:Lg) (h:Heap):Prop :=
 ∃B,base.StaysIn B/\(∀b o,G.get? b=some o->b∉l.filterMap (λ zz=>zz.frame)->B.get? b=some o)/\(∀q∈news,B.get? q.1=some q.2/\G.get? q.1=none/\base.get? q.1=none)/\FlC B l e cls (.ref t) .none h
section
variable {M:Model} {A:Around} {E:Value->Shared->Prop} {s':Shared} {base g:Heap} {outer:List Env} {L e t dx C:Addr} {m:Str->Option Value} {v:Env} {Q:Unit->Shared->Prop} {news:Lg}
theorem v_mem {b:Addr} (hf:v.frame=some L) (hm:b∈(v::outer).filterMap (λ zz=>zz.frame)):b=L\/b∈outer.filterMap (λ zz=>zz.frame):=by
 refine E1_2 (List.mem_filterMap.mp hm) λ env he hf'=>?_
 rcases mem_cons.mp he with rfl | he
 · rw [hf] at hf';exact .inl (Option.some.inj hf').symm
 · exact .inr (List.mem_filterMap.mpr ⟨env,he,hf'⟩)
theorem v_push (K:Below A base outer g) {h:Heap} (F:Fr g L h m) (hf:v.frame=some L) (hk:v.scope.kind≠.module):Below (A.deeper v) base (v::outer) h:=by
 have hnew:base.get? L=none:=by
  cases hq:base.get? L with
  | none=>rfl
  | some o=>exact absurd (Nat.lt_of_lt_of_le (Heap.lt_size (K.stays L o hq)) F.above) (Nat.lt_irrefl _)
 exact ⟨Around.frames_deeper K.stack,λ b o e=>F.keep b o (K.stays b o e),.cons hk hf F.ns hnew (K.frames.of_keeps λ b o e zz=>⟨o,F.keep b o e,rfl⟩)⟩
theorem leave_C (K:Below A base outer g) (F:Fr g L s'.heap m) (N:News g L s'.heap ((e,oExc C t (some dx))::news)) (hne:∀p∈news,p.1≠e)
 (hQ:∀h',RaisedC base g outer e (.ref C) t news h'->g.UpToSlots h'->Q () {s' with heap:=h'}) (hf:autoParam (v.frame=some L) aR) (hk:autoParam (v.scope.kind≠.module) aD) :
 wpAny M (A.deeper v) (leaving v (.ref e)) Q E s':=by
 have K':=v_push (v:=v) K F hf hk
 refine E0_3 (N _ (.head _)) λ he heL he0=>?_
 have hin:∀env∈(v::outer),∀b,env.frame=some b->b∈e::(v::outer).filterMap (λ zz=>zz.frame):=λ env he b hb=>.tail _ (List.mem_filterMap.mpr ⟨env,he,hb⟩)
 have bL:∀b∈(v::outer).filterMap (λ zz=>zz.frame),base.get? b=none:=λ b hm=>(K'.frames.mem hm).1
 have be:base.get? e=none:=fresh_of_stays K.stays he0
 have st:base.StaysIn (hideAll s'.heap (e::(v::outer).filterMap (λ zz=>zz.frame))):=λ b o q=>hideAll_get _ (K'.stays b o q) λ hm=>by
  rcases mem_cons.mp hm with rfl | hm
  · rw [be] at q;f_shut q
  · rw [bL b hm] at q;f_shut q
 have sg:∀b o,g.get? b=some o->b∉outer.filterMap (λ zz=>zz.frame)->(hideAll s'.heap (e::(v::outer).filterMap (λ zz=>zz.frame))).get? b=some o:=λ b o q nm=>hideAll_get _ (F.keep b o q) λ hm=>by
  rcases mem_cons.mp hm with rfl | hm
  · rw [he0] at q;f_shut q
  rcases v_mem hf hm with z | z
  · rw [z,kts_self F] at q
    f_shut q
  · exact nm z
 have hl:∀q∈news,(hideAll s'.heap (e::(v::outer).filterMap (λ zz=>zz.frame))).get? q.1=some q.2/\g.get? q.1=none/\base.get? q.1=none:=λ q hq=>by
  refine ⟨hideAll_get _ (N q (.tail _ hq)).1 λ hm=>?_,(N q (.tail _ hq)).2.2,fresh_of_stays K.stays (N q (.tail _ hq)).2.2⟩
  rcases mem_cons.mp hm with z | hm
  · exact hne q hq z
  rcases v_mem hf hm with z | z
  · exact (N q (.tail _ hq)).2.1 z
  · refine E1_2 ((K.frames.mem z).2) λ o ho zz=>?_
    rw [(N q (.tail _ hq)).2.2] at ho;f_shut ho
 refine xs_leave_first (base:=hideAll s'.heap (e::(v::outer).filterMap (λ zz=>zz.frame))) K'.stack (funFrames_hide K'.frames hin) hf he (λ b o q=>of_hideAll _ q) (hideAll_none _ (.head _)) rfl rfl rfl rfl λ h' hF hs=>?_
 exact hQ h' ⟨_,st,sg,hl,hF⟩ ((Heap.UpToSlots.of_keeps F.keep).trans hs)
end
section
variable {prog:Program} {w:World} {A₀:Around} {E:Value->Shared->Prop} {s':Shared} {base g g₀ G:Heap} {outer:List Env} {L a e t C:Addr} {m:Str->Option Value} {name:Str} {scope:Scope} {cd:Value}
 {b₀:Stmt} {suite:List Stmt} {pos np:Pos} {rest:List ExceptHandler} {Q:Flow->Shared->Prop} {news:Lg} {KF:Frag} {p:Program} {loose:List Str} {mean:ExcName->Option Value} {mg mb:Str->Option Value} {x:Str}
theorem caught_C (R:RaisedC base G (envOf name scope L a cd::outer) e (.ref C) t news s'.heap) (F:Fr g L G m) (K:Below A₀ base outer g) (hsm:G.UpToSlots s'.heap) (XB:KF.In base) (TB:Top p loose mean mg mb base)
 (ex:nsIn KF mainGlobals x=some (some (.ref C))) (q:ktsIn KF C "BaseException"=true)
 (k:∀h' g' oe ws,KtsTurn (outer.filterMap (λ zz=>zz.frame)) g g'->Fr g' L h' m->News g' L h' ((e,oe)::news)->oe.data = .fields ws->ws[2]? = some .none->Below A₀ base outer g'->KF.In g'->Top p loose mean mg mb g' ->
  wpAny (model prog w) ((A₀.deeper (envOf name scope L a cd)).mark (some (.ref e))) (execs (b₀::suite) (envOf name scope L a cd)) Q E {s' with heap:=h'})
 (hk:autoParam (scope.kind = .function) aR) (hx:autoParam ((envOf name scope L a cd).kindOf x=some .globalImplicit) aR) (hd:autoParam ((x == ("__debug__":Str))=false) aD)
 (hE:PassesOwnAt (model prog w) ((A₀.deeper (envOf name scope L a cd)).mark (some (.ref e))) (A₀.deeper (envOf name scope L a cd)) (envOf name scope L a cd) E:=by passes_own) :
 wpAny (model prog w) (A₀.deeper (envOf name scope L a cd)) (noteFrame (.ref e) (envOf name scope L a cd))
  (λ zz s₂=>wpAny (model prog w) (A₀.deeper (envOf name scope L a cd)) (setFlight (.ref e) none) (λ zz s₃ =>
   wpAny (model prog w) (A₀.deeper (envOf name scope L a cd)) (handleBy (.ref e) (envOf name scope L a cd) (.ExceptHandler (some (.Name x np)) none (b₀::suite) pos::rest)) Q E s₃) E s₂) E s':=by
 ctx_has prog w A₀ E s' base g G outer L a e t C m name scope cd b₀ suite pos np rest Q news KF p loose mean mg mb x
 refine E1_4 R λ B hB hBG hl hfl=>?_;ctx_has B;clear R
 have hL:B.get? L=none:=by
  obtain ⟨_,⟨L',_,hf,hn',_⟩,_⟩:=hfl.2.2.1
  obtain rfl:L=L':=Option.some.inj hf
  exact hn'
 refine xs_look (Around.frames_deeper K.stack) rfl hfl λ h₄ f4 sm4=>?_
 ctx_has h₄
 refine xs_flight f4 λ h₅ f5 sm5'=>?_
 ctx_has h₅
 have sm5:=sm4.trans sm5'
 refine E1_3 (kts_ground K F hBG f5.1 (hsm.trans sm5)) λ g₅ T₅ F₅ K₅=>?_
 ctx_has g₅
 have X₅:KF.In g₅:=XB.keeps K₅.stays
 have P₅:TopRead p loose mg mb g₅:=topRead_of (TB.keeps K₅.stays)
 refine E2_3 (f5.first) λ ob vs5 hob hobc zz=>?_
 ctx_has ob vs5
 obtain ⟨nm,q',N,bs,bm,hdct,sn,sub,ab,col,dd,k0,k1,k2,k3,k5,newId,hC,hbase,hbT⟩:=kts_cls X₅ q
 ctx_has nm q' N bs bm hdct sn sub ab col dd k0 k1 k2 k3 k5 newId
 have hC₅:=F₅.keep _ _ hC
 refine wpAny_handleBy_cons (codeAny_handlers_test (name_K F₅ X₅ P₅ ex ?_ hk hx hd)) (by intro q;f_shut q)
 refine wpAny_excMatches_sub_self hC₅ hob hobc hbase (codeAny_handlers_suite ?_)
 refine xs_flight f5 λ h₆ f6 sm6=>?_
 ctx_has h₆
 refine E1_3 (kts_ground K F hBG f6.1 ((hsm.trans sm5).trans sm6)) λ g₆ T₆ F₆ K₆=>?_
 ctx_has g₆
 refine E2_5 (f6.first) λ oe ws hoe hoec hoed hoe0 hoe2=>?_
 ctx_has oe ws
 have ne₆:g₆.get? e=none:=T₆.none_ _ (kts_fresh F hBG f6.2.1 λ o ho m=>by
  obtain ⟨_,o',ho',hd⟩:=K.frames.mem m
  rw [ho] at ho'
  f_shut ho'
  obtain ⟨sl,hs⟩:=((hsm.trans sm5).trans sm6) _ _ (F.keep _ _ ho) hd
  rw [hoe] at hs
  f_shut hs
  exact hd _ hoed)
 have Nl:News g₆ L h₆ news:=λ q hq=>⟨f6.1 _ _ (hl q hq).1,(λ z=>by have:=(hl q hq).1;rw [z,hL] at this;f_shut this),T₆.none_ _ (kts_none F.keep (hl q hq).2.1)⟩
 have N₆:=News.more F₆ Nl hoe (λ es n q=>by rw [hoed] at q;f_shut q) ne₆
 exact wpAny_passesOwnAt hE (k h₆ g₆ oe ws T₆ F₆ N₆ hoed hoe2 K₆ (XB.keeps K₆.stays) (TB.keeps K₆.stays))
end
section
variable {M:Model} {A:Around} {E:Value->Shared->Prop} {s:Shared} {env:Env}
variable {nm q:Str} {C N:Addr} {bs bm:List Value} {hdct:Bool} {sn:List Str} {sub:List Value} {ab:Bool} {col:Option Bool} {dd:Option Addr} {k0 k1 k2 k3 k5:Option Value} {newId:String}
theorem xl_raiseStmt {x:Sem Value} {Q:Flow->Shared->Prop} (hbase:bm.contains (.type "BaseException")=true) (hh:A.handled=none)
 (h:wpAny M A x (λ v s₁=>∃e t d,v = .ref e/\s₁.heap.get? C=some (excClassObj nm q C N bs bm hdct sn sub ab col dd k0 k1 k2 k3 k5 newId) /\
  s₁.heap.get? e=some (oExc C t d)/\E (.ref e) s₁) E s) :
 wpAny M A (raiseStmt env (some x) none) Q E s:=by
 ctx_has M A E s env nm q C N bs bm hdct sn sub ab col dd k0 k1 k2 k3 k5 newId x Q
 have hcB:(Value.ref C::bm).contains (.type "BaseException")=true:=by rw [List.contains_cons,hbase,Bool.or_true]
 unfold raiseStmt
 refine wpAny_bind (wpAny_mono h (λ v s₁ h₁=>?_) λ zz zz x=>x)
 ctx_has v s₁
 refine E3_4 (h₁) λ e t dx e10_3 hC he hE=>?_;ctx_has e t dx;subst e10_3
 obtain ⟨hp,g,d,tk,os⟩:=s₁
 ctx_has hp g d tk os
 repeat (first | with_reducible refine wpAny_loadPart_at he ?_ | with_reducible refine wpAny_loadPart_at hC ?_ | (with_reducible refine wpAny_isSubtype_exc hC ?_;rw [hcB]) | wp_step)
 exact wpAny_raiseNew_none hh hE
theorem xl_raise {x:Str} {np cpos pos:Pos} {args:List Expr} {Q:Flow->Shared->Prop} (hbase:bm.contains (.type "BaseException")=true) (hh:A.handled=none)
 (h:wpAny M A (eval (.Call (.Name x np) args [] cpos) env) (λ v s₁=>∃e t d,v = .ref e/\s₁.heap.get? C=some (excClassObj nm q C N bs bm hdct sn sub ab col dd k0 k1 k2 k3 k5 newId) /\
  s₁.heap.get? e=some (oExc C t d)/\E (.ref e) s₁) E s) :
 wpAny M A (exec (.Raise (some (.Call (.Name x np) args [] cpos)) none pos) env) Q E s:=by
 rw [arm_exec_Raise]
 first
  | refine wpAny_bind (wpAny_standAt (xl_raiseStmt (C:=C) (nm:=nm) (q:=q) (N:=N) (bs:=bs) (bm:=bm) (hdct:=hdct) (sn:=sn) (sub:=sub) (ab:=ab) (col:=col) (dd:=dd) (k0:=k0) (k1:=k1) (k2:=k2) (k3:=k3) (k5:=k5) (newId:=newId) hbase hh (wpAny_bind (wpAny_mono h (λ v s₃ h₃=>wpAny_bind (wpAny_standAt (wpAny_pure h₃))) λ zz zz x=>x))))
  | (simp only [evalOpt,Option.map];refine wpAny_bind (wpAny_standAt (xl_raiseStmt (C:=C) (nm:=nm) (q:=q) (N:=N) (bs:=bs) (bm:=bm) (hdct:=hdct) (sn:=sn) (sub:=sub) (ab:=ab) (col:=col) (dd:=dd) (k0:=k0) (k1:=k1) (k2:=k2) (k3:=k3) (k5:=k5) (newId:=newId) hbase hh (wpAny_bind (wpAny_mono h (λ v s₃ h₃=>wpAny_bind (wpAny_standAt (wpAny_pure h₃))) λ zz zz x=>x)))))
end
theorem kl_cut_at:∀ {vs:List Value} {i:Nat} {v:Value},vs[i]? = some v->kl_cut vs i=some (vs.take i,v,vs.drop (i+1))
 | x::r,0,v,h=>by f_shut h;rfl
 | x::r,i+1,v,h=>by
  have h':r[i]? = some v:=h
  show (match kl_cut r i with | some (p,y,q)=>some (x::p,y,q) | none=>none)=_
  rw [kl_cut_at h'];rfl
 | [],_,_,h=>by f_shut h
section
variable {prog:Program} {w:World} {A:Around} {E:Value->Shared->Prop} {s:Shared} {h₀:Heap} {L D:Addr} {m:Str->Option Value} {news news':Lg} {n:Nat}
theorem popAtL {vs:List Value} {i:Nat} {u:Tok} {v:Value} {Q:Value->Shared->Prop} (F:Fr h₀ L s.heap m) (N:News h₀ L s.heap news) (hv:vs[i]? = some v) (U:Upd D (listOf vs.toArray n) (listOf (vs.eraseIdx i).toArray (n+1)) news news') (hz:vs.length<=900)
 (h:∀h',Fr h₀ L h' m->News h₀ L h' news'->Q v {s with heap:=h'}):wpAny (model prog w) A (call (.builtin "list.pop") [.ref D,.int (i:Int) u]) Q E s:=by
 have hi:=(List.getElem?_eq_some_iff.mp hv).1
 rw [List.eraseIdx_eq_take_drop_succ] at U
 refine kl_popAt (its:=vs.toArray) (k:=i) F N ?_ ?_ (by simpa using kl_cut_at hv) U (by simp [sizeLine_eq];exact Nat.le_trans (by assumption) (by decide)) h
 · unfold Builtin.List.listFitsIndex
   have h1:(-(2 ^ 63:Int))<=(i:Int):=by exact Int.natCast_nonneg _
   have h2:(i:Int) < 2 ^ 63:=by lia
   rw [Bool.and_eq_true];exact ⟨decide_eq_true h1,decide_eq_true h2⟩
 · unfold seqIndex?
   have h0:¬ ((i:Int) < 0):=by simp+arith
   simp [h0,hi]
end
section
variable {prog:Program} {w:World} {A:Around} {E:Value->Shared->Prop} {s:Shared} {env:Env} {h₀:Heap} {body:List Stmt} {Q:Flow->Shared->Prop}
noncomputable def PairEnd (h₀:Heap) (L:Addr) (J:(Str->Option Value)->Lg->Prop) (own:Lg) (s₁:Shared) (f:Flow) (s₂:Shared):Prop:=match f with | .next=>InvEndG h₀ L J own s₁ s₂ | _=>False
theorem loop_pairs {l:Addr} {vs:List Value} {k:Nat} {m₀:Str->Option Value} {news:Lg} {xi xc:Str} {pk pv pt:Pos} {x1:Nat} (J:Nat->(Str->Option Value)->Lg->Prop)
 (hh:A.handled=none) (hxi:env.kindOf xi=some .local) (hxc:env.kindOf xc=some .local) (hp:(env.scope.kind == .class || (env.scope.kind == .module && env.locals != env.globals))=false)
 (hl:(l,listOf vs.toArray k)∈news) (F:Fr h₀ env.locals s.heap m₀) (N:News h₀ env.locals s.heap news) (hj:J 0 m₀ news)
 (keep:∀i m nx,J i m nx->(l,listOf vs.toArray k)∈nx)
 (pairs:∀i v m nx,vs[i]? = some v->J i m nx->∃T v0 v1 kk,v = .ref T/\(T,tupO [v0,v1] kk)∈nx)
 (turn:∀i T v0 v1 kk m₁ nx (s₁:Shared) own,vs[i]? = some (.ref T)->(T,tupO [v0,v1] kk)∈nx->OwnOff own (nx.map (λ zz=>zz.1))->J i m₁ nx->Fr h₀ env.locals s₁.heap (λ y=>if y=xc then some v1 else if y=xi then some v0 else m₁ y)->News h₀ env.locals s₁.heap (nx++own) ->
  wpAny (model prog w) A (execs body env) (PairEnd h₀ env.locals (J (i+1)) own s₁) E s₁)
 (done:∀m₁ nx h tk,J vs.length m₁ nx->Fr h₀ env.locals h m₁->News h₀ env.locals h nx->Q .next {s with heap:=h,toks:=tk}) :
 wpAny (model prog w) A (pyIter (.ref l)) (λ it s₂=>LoopAtT prog w A h₀ env (.Tuple [.Name xi pk,.Name xc pv] x1 pt) body Q E it s₂) E s:=by
 ctx_has prog w A E s env h₀ body Q l vs k m₀ news xi xc pk pv pt x1 J
 have hol:s.heap.get? l=some (listOf vs.toArray k):=(N _ hl).1
 have hls:s.heap.IsList l vs.toArray:=⟨_,hol,rfl,k,rfl⟩
 have hne:l≠s.heap.objs.size:=Nat.ne_of_lt (Heap.lt_size hol)
 refine wpAny_pyIter_list hls ?_
 have W:=Walks.list (prog:=prog) (w:=w) hh s.heap.objs.size l hne vs.toArray
 have hlen:vs.toArray.size=vs.length:=by trivial
 rw [hlen] at W
 have hLl:env.locals≠l:=Ne.symm (N _ hl).2.1
 have hLI:env.locals≠s.heap.objs.size:=Nat.ne_of_lt F.ns.lt
 refine ⟨s.heap.objs.size,[s.heap.objs.size,l],[s.heap.objs.size],vs.length,_,_,m₀,news,J,rfl,W,?_,?_,?_,⟨⟨_,Heap.get?_push_size _ rfl,rfl,rfl⟩,hls.at λ o e=>Heap.get?_push_of_some _ e⟩,F.push _,
  (λ p hp=>⟨Heap.get?_push_of_some _ (N p hp).1,(N p hp).2⟩),λ i s' v Q' st hQ'=>letGo_listiter st.1 hQ',hj,?_,?_⟩
 · intro hm
   rcases mem_cons.mp hm with e | hm
   · exact hLI e
   · exact hLl (mem_singleton.mp hm)
 · intro b hb
   rw [mem_singleton.mp hb];exact next_is_new F
 · intro p hp hI
   exact absurd (Heap.lt_size (N p hp).1) ((mem_singleton.mp hI) ▸ Nat.lt_irrefl _)
 · intro i v m₁ news₁ s₁ own hin hP hJ hoff hown hget hfp hst' F₁ N₁
   have hP':vs[i]? = some v:=by simpa using hP
   refine E4_2 (pairs i v m₁ news₁ hP' hJ) λ T v0 v1 kk e0_4 hT=>?_;subst e0_4
   have ht:s₁.heap.IsTuple T #[v0,v1]:=⟨_,(N₁ _ (mem_append_right _ hT)).1,rfl,kk,rfl⟩
   refine wpAny_assign_Tuple hh ht rfl rfl λ h₃ hx₃=>?_
   replace hx₃:Heap.ExtBut s₁.heap.objs.size s₁.heap h₃:=hx₃
   have up₃:∀b o,s₁.heap.get? b=some o->h₃.get? b=some o:=λ b o x=>hx₃ b o (Nat.ne_of_lt (Heap.lt_size x)) x
   have F₃:Fr h₀ env.locals h₃ m₁:=F₁.keeps up₃
   have N₃:News h₀ env.locals h₃ (own++news₁):=N₁.grown up₃
   show wpAny _ A (do holding [v1] (assign (.Name xi pk) env v0);do holding [] (assign (.Name xc pv) env v1);pure ()) _ _ _
   refine wpAny_bind (wpAny_holding (wpAny_assign_Name (wpAny_storeName_local hxi F₃.ns (λ h₄ hn₄ hs₄=>?_) hp)))
   replace hs₄:Heap.SameBut env.locals h₃ h₄:=hs₄
   have F₄:=F₃.set hn₄ hs₄
   refine wpAny_bind (wpAny_holding (wpAny_assign_Name (wpAny_storeName_local hxc F₄.ns (λ h₅ hn₅ hs₅=>wpAny_pure ?_) hp)))
   replace hs₅:Heap.SameBut env.locals h₄ h₅:=hs₅
   have F₅:=F₄.set hn₅ hs₅
   have N₅:News h₀ env.locals h₅ (own++news₁):=(N₃.set hs₄).set hs₅
   have hI5:∃oI,h₅.get? s.heap.objs.size=some oI:=by
    refine E1_2 (hst'.1) λ oI hoI zz=>?_
    exact ⟨oI,(hs₅.2 _ (Ne.symm hLI)).trans ((hs₄.2 _ (Ne.symm hLI)).trans (up₃ _ _ hoI))⟩
   refine E1_2 (hst'.1) λ oI hoI0 zz=>?_
   have hIown:(s.heap.objs.size,oI)∈own.filter λ p=>decide (p.1=s.heap.objs.size):=mem_filter.mpr ⟨hfp _ (mem_cons.mpr (.inl rfl)) (next_is_new F) _ hoI0,by simp⟩
   have hsep:OwnOff (own.filter λ p=>decide (p.1=s.heap.objs.size)) (news₁.map (λ zz=>zz.1)):=by
    intro p hp b hb e
    refine E1_2 (mem_map.mp hb) λ q hq e3_2=>?_;subst e3_2
    have h1:p.1=s.heap.objs.size:=by simpa using (mem_filter.mp hp).2
    exact hoff q hq (mem_singleton.mpr (e ▸ h1))
   have N₂:News h₀ env.locals h₅ (news₁++own.filter λ p=>decide (p.1=s.heap.objs.size)):=λ p hp=>N₅ p ((mem_append.mp hp).elim (λ h=>mem_append.mpr (.inr h)) λ h=>mem_append.mpr (.inl ((mem_filter.mp h).1)))
   refine wpAny_mono (turn i T v0 v1 kk m₁ news₁ _ _ hP' hT hsep hJ F₅ N₂) (λ f s₂ p=>?_) λ zz zz e=>e
   induction f with
   | ret v=>exact p.elim
   | brk=>exact p.elim
   | cont=>exact p.elim
   | next =>
    refine E5_7 ((p:InvEndG _ _ _ _ _ _)) λ h' tk m' news' nx e F' N' hn ho ha hm=>?_
    refine ⟨rfl,h',tk,m',nx,e,F',λ p hp=>?_,λ p hp hq=>?_,hm⟩
    · rcases mem_append.mp hp with h | h
      · by_cases hI':p.1=s.heap.objs.size
        · exact N' p (ho p (mem_filter.mpr ⟨h,by simpa using hI'⟩))
        · have h1:p.1=l:=by
           rcases mem_cons.mp (hown p h) with h2 | h2
           · exact absurd h2 hI'
           · exact mem_singleton.mp h2
          have h2:s₁.heap.get? p.1=some p.2:=hget p h
          have k:=keep _ _ _ hJ
          have hlo:s₁.heap.get? l=some (listOf vs.toArray _):=(N₁ _ (mem_append.mpr (.inr k))).1
          rw [h1,hlo] at h2
          have h3:p=(l,listOf vs.toArray _):=Prod.ext h1 (Option.some.inj h2).symm
          rw [h3];exact N' _ (hn _ (keep _ _ _ hm))
      · exact N' p (hn p h)
    · exact ha _ hIown p.1 (mem_map.mpr ⟨p,hp,rfl⟩) (mem_singleton.mp hq).symm
 · intro h' tk m' news' F' N' zz hJ
   exact done m' news' h' tk hJ F' N'
end
section
variable {W:Wd} {I:Info} {r:Nat} {c:Cx W I r} {vals vals':Vs} {own own':Ow}
noncomputable def Cx.Rz (c:Cx W I r) (own:Ow):Prop:=∀ (h2:Heap) (tk:Nat) (e t dx:Addr) (m cm:Str->Option Value) (ob cel frz:Lg) (vals:Vs),c.S0 m cm ob cel frz vals own->Fr c.h₀ c.L h2 m->News c.h₀ c.L h2 ((e,oExc 59 t (some dx))::c.all ob cel frz)->(∀p∈c.all ob cel frz,p.1≠e)->c.E (.ref e) {c.s with heap:=h2,toks:=tk}
theorem Cx.A_eq (k:c.Ok) (hI:I.hb=false):c.A=ktrTop c.dp c.un c.gd I.cn I.cs c.L I.a I.ccd (cellsFrom (c.L+1) I.cs.names []) c.outer:=by
 unfold Cx.A;rw [k.hhb hI]
theorem WS.raise {np cpos pos p:Pos} {i:Str} {k:Nat} {rest:List Stmt} {K:KS} (hz:c.Rz own) (hr:autoParam (2<=r) aD) (hI:autoParam (I.hb=false) aR) (g:Gl W (Str.ofString "TreeFault") (.ref 59):=by exact ⟨by kernel_rfl,by kernel_rfl⟩) (hx:autoParam ((cEnv I 0 0).kindOf (Str.ofString "TreeFault")=some .globalImplicit) aQ)
 (he:autoParam (∀env,starEach [.Constant (.str i) k p] env=(false,eval (.Constant (.str i) k p) env)::starEach [] env) aK) (hp:autoParam (∀env,(backTo cpos (starEach [] env)).any (λ zz=>zz.1)=false) aK)
 (hc:autoParam (∀env,eval (.Call (.Name (Str.ofString "TreeFault") np) [.Constant (.str i) k p] [] cpos) env=(do callWith cpos (←eval (.Name (Str.ofString "TreeFault") np) env) [] (backTo cpos (starEach [.Constant (.str i) k p] env)) (backToKw cpos (keywordEach [] env)))) aK) :
 WS c (.Raise (some (.Call (.Name (Str.ofString "TreeFault") np) [.Constant (.str i) k p] [] cpos)) none pos::rest) K vals own:=by
 intro s Q a hQ
 have hd:=a.k.hd
 have hu:=a.k.hu
 refine two_tf W.w _ λ nm q N0 bs sn sub ab col dd z0 z1 z2 z3 z5 c0 dP cdP slP hC zz zz zz zz zz=>?_
 refine wpAny_execs_cons (xl_raise (C:=59) (N:=N0) (nm:=nm) (q:=q) (bs:=bs) (sn:=sn) (sub:=sub) (ab:=ab) (col:=col) (dd:=dd) (k0:=z0) (k1:=z1) (k2:=z2) (k3:=z3) (k5:=z5) (hdct:=true) (newId:="Exception.__new__") (bm:=.ref 46::exB) (by rfl) (a.k.hhb hI) ?_)
 refine Call_ ?_ (hc _)
 refine Cx.AtI.el a λ g0 tk m cm ob cel frz S hv=>?_
 have hg:c.env.globals=mainGlobals:=cEnv_gl
 refine Name_function_global (cEnv_fk.trans S.k.ok.fk) (cEnv_kind.trans hx) (loadGlobal_global (mg:=W.mg) (v:=.ref 59) (by rw [hg];exact S.k.T.g.keeps S.F.keep) (mg_of S.k.X S.k.T.g g.1) ?_) (by decide+kernel)
 refine callWith_K S.k.X g.2 (args_cons (wpAny_Constant_str (args_nil ⟨S.k.X.keeps S.F.keep,?_⟩)) (he _)) (he _) (hp _)
 rw [List.nil_append,c.A_eq a.k hI]
 refine tf_ok W.w W.mean W.mg W.mb _ (c.all ob cel frz) _ _ _ _ _ _ _ _ _ _ _ _ _ _ _ _ _ S.k.B S.F S.k.X S.N S.k.T.toTop S.k.ok.hk (by lia) (by lia) ?_
 intro h2 e t dx oD tk2 F2 N2 off e1 e2 e3
 refine ⟨e,t,some dx,rfl,(S.k.X.keeps F2.keep) _ _ hC,(N2 _ (.head _)).1,?_⟩
 refine hz h2 tk2 e t dx m cm ob cel frz vals S.s0 F2 (λ p hp=>N2 p ?_) λ p hp=>(off p hp).1
 rcases mem_cons.mp hp with rfl | hp
 · exact .head _
 · exact .tail _ (.tail _ (.tail _ hp))
end
noncomputable def TlX (W:Wd) (f:Addr) (r:Nat) (args:List MV) (own:Ow):Prop :=
 ∀ (fz:Lg) (dp un:Nat) (gd:Option (List Code)) (cn:Str) (cs:Scope) (a:Addr) (ccd:Value) (cl:List (Str×Addr)) (outer:List Env) (A₀:Around) (base h₀:Heap) (L:Addr) (m:Str->Option Value) (s:Shared) (R:Result->Shared->Prop) (ob kp:Lg) (vs:List Value),
  Below A₀ base outer h₀->Fr h₀ L s.heap m->(KH W).In h₀->News h₀ L s.heap (ob++(kp++fz))->(ob.map (λ zz=>zz.1)).Nodup->(∀p∈ob,∀q∈kp,p.1≠q.1)->(∀p∈ob++kp,∀q∈fz,p.1≠q.1) ->
  OAll W.w fz ob own->MAll W.w fz vs args->TopV W h₀->cs.kind = .function->dp+r < recursionLimit->un+8 * r < cLine ->
  (∀g h' e t tk' ob' fz',Fr h₀ L g m->RaisedC base g (envX cn cs L a ccd cl::outer) e (.ref 59) t (ob'++(kp++fz')) h'->g.UpToSlots h'->(ob'.map (λ zz=>zz.1)).Nodup->(∀p∈ob',∀q∈kp,p.1≠q.1)->Ext fz fz'->(∀p∈ob'++kp,∀q∈fz',p.1≠q.1)->OAll W.w fz' ob' own->R (.error (.ref e)) {s with heap:=h',toks:=tk'}) ->
  codeAny (model PG W.w) ({handled:=none,depth:=dp,frames:=some (envX cn cs L a ccd cl::outer),guards:=gd,units:=un}:Around) (.call (.ref f) ⟨vs,[]⟩) R s
theorem TlX.enter {W:Wd} {f:Addr} {r:Nat} {args:List MV} {own:Ow} {name qual:Str} {params:Arguments} {body:List Stmt} {scope:Scope} {dV kV doc pm cdv ct oc:Value} {an od:Option Addr} {osl:Array (Option Value)} (names:List (Str×Bool)) {vals:Vs} {ps:List Str}
 (ho:(KH W).lookup f=some ⟨oc,od,.func (fnOf name qual params body scope dV kV doc pm an cdv ct),osl⟩) (hcd:codeIn (KH W) cdv qual=true) (hini:Ini ps args names vals) (ok:OkI ⟨qual,scope,f,cdv,names,false,none⟩)
 (hbind:∀vs:List Value,vs.length=args.length->bindArgs (fnOf name qual params body scope dV kV doc pm an cdv ct) ⟨vs,[]⟩=pure (ps.zip vs)) (hco:scope.isCoroutine=false) (hgen:scope.isGenerator=false)
 (h:∀c:Cx W ⟨qual,scope,f,cdv,names,false,none⟩ r,c.Rz own->WS c body (λ zz zz zz=>False) vals own):TlX W f (r+1) args own:=by
 ctx_has W f r args own name qual params body scope dV kV doc pm cdv ct oc an od osl names vals ps
 intro fz dp un gd cn cs a ccd cl outer A₀ base h₀ L m s R ob kp vs B F X N nd ao af ow hv T hk hd hu ret
 refine enter_core (hb:=false) (dfs:=[]) (dms:=[]) names ho hcd (λ zz=>.nil) (by rw [append_nil];exact hini) ok (λ s vs zz e=>.of_eq (by rw [append_nil];exact hbind vs e)) hco hgen (λ zz=>rfl) trivial B F X N nd ao af ow hv T hk hd hu λ c s₁ ef eo es eu eb eh eA FG a0 hE=>h c ?_ s₁ _ a0 λ zz zz zz zz zz hk=>hk.elim
 intro h2 tk e t dx m' cm' ob' cel' frz' vals' S' F' N' he
 subst ef eo es eb
 refine hE _ _ ?_
 rw [eA]
 refine leave_C (dx:=dx) (t:=t) (C:=59) (news:=ob'++(c.old++frz')) S'.k.B F' (λ p hp=>N' p ?_) (λ p hp=>he p ?_) (λ h3 hR hs=>?_) rfl (λ q=>by rw [show c.env.scope.kind = .function from S'.k.ok.hk] at q;f_shut q)
 · rcases mem_cons.mp hp with rfl | hp
   · exact .head _
   · kso_open hp
 · kso_open hp
 · rw [eu] at hR
   have nd':=S'.nd
   rw [map_append,nodup_append] at nd'
   refine ret c.h₀ h3 e t tk ob' frz' FG hR hs nd'.1 (λ p hp=>S'.ao p (mem_append_left _ hp)) S'.fx (λ p hp q hq=>S'.af p ?_ q hq) S'.ow
   kso_open hp
@[elab_as_elim] theorem EV0_0 {A B:Type} {V:A} {O:B} {G:A->B->Prop} {v:A} {o:B} (h:v=V/\o=O) (k:G V O):G v o:=h.1 ▸ h.2 ▸ k 
@[elab_as_elim] theorem EV1_0 {A B α0:Type} {V:α0->A} {O:α0->B} {G:A->B->Prop} (v:A) (o:B) (h:∃a0,v=V a0/\o=O a0) (k:∀a0,G (V a0) (O a0)):G v o:=h.elim λ a0 h=>h.1 ▸ h.2 ▸ k a0
@[elab_as_elim] theorem EV1_1 {A B α0:Type} {V:α0->A} {O:α0->B} {P0:α0->Prop} {G:A->B->Prop} (v:A) (o:B) (h:∃a0,v=V a0/\o=O a0/\P0 a0) (k:∀a0,P0 a0->G (V a0) (O a0)):G v o:=h.elim λ a0 h=>h.1 ▸ h.2.1 ▸ k a0 h.2.2
@[elab_as_elim] theorem EV2_0 {A B α0 α1:Type} {V:α0->α1->A} {O:α0->α1->B} {G:A->B->Prop} (v:A) (o:B) (h:∃a0 a1,v=V a0 a1/\o=O a0 a1) (k:∀a0 a1,G (V a0 a1) (O a0 a1)):G v o:=h.elim λ a0 h=>h.elim λ a1 h=>h.1 ▸ h.2 ▸ k a0 a1
@[elab_as_elim] theorem EV2_5 {A B α0 α1:Type} {V:α0->α1->A} {O:α0->α1->B} {P0 P1 P2 P3 P4:α0->α1->Prop} {G:A->B->Prop} (v:A) (o:B) (h:∃a0 a1,v=V a0 a1/\o=O a0 a1/\P0 a0 a1/\P1 a0 a1/\P2 a0 a1/\P3 a0 a1/\P4 a0 a1) (k:∀a0 a1,P0 a0 a1->P1 a0 a1->P2 a0 a1->P3 a0 a1->P4 a0 a1->G (V a0 a1) (O a0 a1)):G v o:=h.elim λ a0 h=>h.elim λ a1 h=>h.1 ▸ h.2.1 ▸ k a0 a1 h.2.2.1 h.2.2.2.1 h.2.2.2.2.1 h.2.2.2.2.2.1 h.2.2.2.2.2.2
@[elab_as_elim] theorem EV3_1 {A B α0 α1 α2:Type} {V:α0->α1->α2->A} {O:α0->α1->α2->B} {P0:α0->α1->α2->Prop} {G:A->B->Prop} (v:A) (o:B) (h:∃a0 a1 a2,v=V a0 a1 a2/\o=O a0 a1 a2/\P0 a0 a1 a2) (k:∀a0 a1 a2,P0 a0 a1 a2->G (V a0 a1 a2) (O a0 a1 a2)):G v o:=h.elim λ a0 h=>h.elim λ a1 h=>h.elim λ a2 h=>h.1 ▸ h.2.1 ▸ k a0 a1 a2 h.2.2
@[elab_as_elim] theorem EV3_2 {A B α0 α1 α2:Type} {V:α0->α1->α2->A} {O:α0->α1->α2->B} {P0 P1:α0->α1->α2->Prop} {G:A->B->Prop} (v:A) (o:B) (h:∃a0 a1 a2,v=V a0 a1 a2/\o=O a0 a1 a2/\P0 a0 a1 a2/\P1 a0 a1 a2) (k:∀a0 a1 a2,P0 a0 a1 a2->P1 a0 a1 a2->G (V a0 a1 a2) (O a0 a1 a2)):G v o:=h.elim λ a0 h=>h.elim λ a1 h=>h.elim λ a2 h=>h.1 ▸ h.2.1 ▸ k a0 a1 a2 h.2.2.1 h.2.2.2
@[elab_as_elim] theorem EV3_3 {A B α0 α1 α2:Type} {V:α0->α1->α2->A} {O:α0->α1->α2->B} {P0 P1 P2:α0->α1->α2->Prop} {G:A->B->Prop} (v:A) (o:B) (h:∃a0 a1 a2,v=V a0 a1 a2/\o=O a0 a1 a2/\P0 a0 a1 a2/\P1 a0 a1 a2/\P2 a0 a1 a2) (k:∀a0 a1 a2,P0 a0 a1 a2->P1 a0 a1 a2->P2 a0 a1 a2->G (V a0 a1 a2) (O a0 a1 a2)):G v o:=h.elim λ a0 h=>h.elim λ a1 h=>h.elim λ a2 h=>h.1 ▸ h.2.1 ▸ k a0 a1 a2 h.2.2.1 h.2.2.2.1 h.2.2.2.2
@[elab_as_elim] theorem EV4_0 {A B α0 α1 α2 α3:Type} {V:α0->α1->α2->α3->A} {O:α0->α1->α2->α3->B} {G:A->B->Prop} (v:A) (o:B) (h:∃a0 a1 a2 a3,v=V a0 a1 a2 a3/\o=O a0 a1 a2 a3) (k:∀a0 a1 a2 a3,G (V a0 a1 a2 a3) (O a0 a1 a2 a3)):G v o:=h.elim λ a0 h=>h.elim λ a1 h=>h.elim λ a2 h=>h.elim λ a3 h=>h.1 ▸ h.2 ▸ k a0 a1 a2 a3
@[elab_as_elim] theorem EV4_1 {A B α0 α1 α2 α3:Type} {V:α0->α1->α2->α3->A} {O:α0->α1->α2->α3->B} {P0:α0->α1->α2->α3->Prop} {G:A->B->Prop} (v:A) (o:B) (h:∃a0 a1 a2 a3,v=V a0 a1 a2 a3/\o=O a0 a1 a2 a3/\P0 a0 a1 a2 a3) (k:∀a0 a1 a2 a3,P0 a0 a1 a2 a3->G (V a0 a1 a2 a3) (O a0 a1 a2 a3)):G v o:=h.elim λ a0 h=>h.elim λ a1 h=>h.elim λ a2 h=>h.elim λ a3 h=>h.1 ▸ h.2.1 ▸ k a0 a1 a2 a3 h.2.2
@[elab_as_elim] theorem EV5_2 {A B α0 α1 α2 α3 α4:Type} {V:α0->α1->α2->α3->α4->A} {O:α0->α1->α2->α3->α4->B} {P0 P1:α0->α1->α2->α3->α4->Prop} {G:A->B->Prop} (v:A) (o:B) (h:∃a0 a1 a2 a3 a4,v=V a0 a1 a2 a3 a4/\o=O a0 a1 a2 a3 a4/\P0 a0 a1 a2 a3 a4/\P1 a0 a1 a2 a3 a4) (k:∀a0 a1 a2 a3 a4,P0 a0 a1 a2 a3 a4->P1 a0 a1 a2 a3 a4->G (V a0 a1 a2 a3 a4) (O a0 a1 a2 a3 a4)):G v o:=h.elim λ a0 h=>h.elim λ a1 h=>h.elim λ a2 h=>h.elim λ a3 h=>h.elim λ a4 h=>h.1 ▸ h.2.1 ▸ k a0 a1 a2 a3 a4 h.2.2.1 h.2.2.2
@[elab_as_elim] theorem EV5_4 {A B α0 α1 α2 α3 α4:Type} {V:α0->α1->α2->α3->α4->A} {O:α0->α1->α2->α3->α4->B} {P0 P1 P2 P3:α0->α1->α2->α3->α4->Prop} {G:A->B->Prop} (v:A) (o:B) (h:∃a0 a1 a2 a3 a4,v=V a0 a1 a2 a3 a4/\o=O a0 a1 a2 a3 a4/\P0 a0 a1 a2 a3 a4/\P1 a0 a1 a2 a3 a4/\P2 a0 a1 a2 a3 a4/\P3 a0 a1 a2 a3 a4) (k:∀a0 a1 a2 a3 a4,P0 a0 a1 a2 a3 a4->P1 a0 a1 a2 a3 a4->P2 a0 a1 a2 a3 a4->P3 a0 a1 a2 a3 a4->G (V a0 a1 a2 a3 a4) (O a0 a1 a2 a3 a4)):G v o:=h.elim λ a0 h=>h.elim λ a1 h=>h.elim λ a2 h=>h.elim λ a3 h=>h.elim λ a4 h=>h.1 ▸ h.2.1 ▸ k a0 a1 a2 a3 a4 h.2.2.1 h.2.2.2.1 h.2.2.2.2.1 h.2.2.2.2.2
@[elab_as_elim] theorem EV5_5 {A B α0 α1 α2 α3 α4:Type} {V:α0->α1->α2->α3->α4->A} {O:α0->α1->α2->α3->α4->B} {P0 P1 P2 P3 P4:α0->α1->α2->α3->α4->Prop} {G:A->B->Prop} (v:A) (o:B) (h:∃a0 a1 a2 a3 a4,v=V a0 a1 a2 a3 a4/\o=O a0 a1 a2 a3 a4/\P0 a0 a1 a2 a3 a4/\P1 a0 a1 a2 a3 a4/\P2 a0 a1 a2 a3 a4/\P3 a0 a1 a2 a3 a4/\P4 a0 a1 a2 a3 a4) (k:∀a0 a1 a2 a3 a4,P0 a0 a1 a2 a3 a4->P1 a0 a1 a2 a3 a4->P2 a0 a1 a2 a3 a4->P3 a0 a1 a2 a3 a4->P4 a0 a1 a2 a3 a4->G (V a0 a1 a2 a3 a4) (O a0 a1 a2 a3 a4)):G v o:=h.elim λ a0 h=>h.elim λ a1 h=>h.elim λ a2 h=>h.elim λ a3 h=>h.elim λ a4 h=>h.1 ▸ h.2.1 ▸ k a0 a1 a2 a3 a4 h.2.2.1 h.2.2.2.1 h.2.2.2.2.1 h.2.2.2.2.2.1 h.2.2.2.2.2.2
@[elab_as_elim] theorem EV7_2 {A B α0 α1 α2 α3 α4 α5 α6:Type} {V:α0->α1->α2->α3->α4->α5->α6->A} {O:α0->α1->α2->α3->α4->α5->α6->B} {P0 P1:α0->α1->α2->α3->α4->α5->α6->Prop} {G:A->B->Prop} (v:A) (o:B) (h:∃a0 a1 a2 a3 a4 a5 a6,v=V a0 a1 a2 a3 a4 a5 a6/\o=O a0 a1 a2 a3 a4 a5 a6/\P0 a0 a1 a2 a3 a4 a5 a6/\P1 a0 a1 a2 a3 a4 a5 a6) (k:∀a0 a1 a2 a3 a4 a5 a6,P0 a0 a1 a2 a3 a4 a5 a6->P1 a0 a1 a2 a3 a4 a5 a6->G (V a0 a1 a2 a3 a4 a5 a6) (O a0 a1 a2 a3 a4 a5 a6)):G v o:=h.elim λ a0 h=>h.elim λ a1 h=>h.elim λ a2 h=>h.elim λ a3 h=>h.elim λ a4 h=>h.elim λ a5 h=>h.elim λ a6 h=>h.1 ▸ h.2.1 ▸ k a0 a1 a2 a3 a4 a5 a6 h.2.2.1 h.2.2.2
@[elab_as_elim] theorem EV7_4 {A B α0 α1 α2 α3 α4 α5 α6:Type} {V:α0->α1->α2->α3->α4->α5->α6->A} {O:α0->α1->α2->α3->α4->α5->α6->B} {P0 P1 P2 P3:α0->α1->α2->α3->α4->α5->α6->Prop} {G:A->B->Prop} (v:A) (o:B) (h:∃a0 a1 a2 a3 a4 a5 a6,v=V a0 a1 a2 a3 a4 a5 a6/\o=O a0 a1 a2 a3 a4 a5 a6/\P0 a0 a1 a2 a3 a4 a5 a6/\P1 a0 a1 a2 a3 a4 a5 a6/\P2 a0 a1 a2 a3 a4 a5 a6/\P3 a0 a1 a2 a3 a4 a5 a6) (k:∀a0 a1 a2 a3 a4 a5 a6,P0 a0 a1 a2 a3 a4 a5 a6->P1 a0 a1 a2 a3 a4 a5 a6->P2 a0 a1 a2 a3 a4 a5 a6->P3 a0 a1 a2 a3 a4 a5 a6->G (V a0 a1 a2 a3 a4 a5 a6) (O a0 a1 a2 a3 a4 a5 a6)):G v o:=h.elim λ a0 h=>h.elim λ a1 h=>h.elim λ a2 h=>h.elim λ a3 h=>h.elim λ a4 h=>h.elim λ a5 h=>h.elim λ a6 h=>h.1 ▸ h.2.1 ▸ k a0 a1 a2 a3 a4 a5 a6 h.2.2.1 h.2.2.2.1 h.2.2.2.2.1 h.2.2.2.2.2
@[elab_as_elim] theorem EV10_7 {A B α0 α1 α2 α3 α4 α5 α6 α7 α8 α9:Type} {V:α0->α1->α2->α3->α4->α5->α6->α7->α8->α9->A} {O:α0->α1->α2->α3->α4->α5->α6->α7->α8->α9->B} {P0 P1 P2 P3 P4 P5 P6:α0->α1->α2->α3->α4->α5->α6->α7->α8->α9->Prop} {G:A->B->Prop} (v:A) (o:B) (h:∃a0 a1 a2 a3 a4 a5 a6 a7 a8 a9,v=V a0 a1 a2 a3 a4 a5 a6 a7 a8 a9/\o=O a0 a1 a2 a3 a4 a5 a6 a7 a8 a9/\P0 a0 a1 a2 a3 a4 a5 a6 a7 a8 a9/\P1 a0 a1 a2 a3 a4 a5 a6 a7 a8 a9/\P2 a0 a1 a2 a3 a4 a5 a6 a7 a8 a9/\P3 a0 a1 a2 a3 a4 a5 a6 a7 a8 a9/\P4 a0 a1 a2 a3 a4 a5 a6 a7 a8 a9/\P5 a0 a1 a2 a3 a4 a5 a6 a7 a8 a9/\P6 a0 a1 a2 a3 a4 a5 a6 a7 a8 a9) (k:∀a0 a1 a2 a3 a4 a5 a6 a7 a8 a9,P0 a0 a1 a2 a3 a4 a5 a6 a7 a8 a9->P1 a0 a1 a2 a3 a4 a5 a6 a7 a8 a9->P2 a0 a1 a2 a3 a4 a5 a6 a7 a8 a9->P3 a0 a1 a2 a3 a4 a5 a6 a7 a8 a9->P4 a0 a1 a2 a3 a4 a5 a6 a7 a8 a9->P5 a0 a1 a2 a3 a4 a5 a6 a7 a8 a9->P6 a0 a1 a2 a3 a4 a5 a6 a7 a8 a9->G (V a0 a1 a2 a3 a4 a5 a6 a7 a8 a9) (O a0 a1 a2 a3 a4 a5 a6 a7 a8 a9)):G v o:=h.elim λ a0 h=>h.elim λ a1 h=>h.elim λ a2 h=>h.elim λ a3 h=>h.elim λ a4 h=>h.elim λ a5 h=>h.elim λ a6 h=>h.elim λ a7 h=>h.elim λ a8 h=>h.elim λ a9 h=>h.1 ▸ h.2.1 ▸ k a0 a1 a2 a3 a4 a5 a6 a7 a8 a9 h.2.2.1 h.2.2.2.1 h.2.2.2.2.1 h.2.2.2.2.2.1 h.2.2.2.2.2.2.1 h.2.2.2.2.2.2.2.1 h.2.2.2.2.2.2.2.2
@[elab_as_elim] theorem EV11_6 {A B α0 α1 α2 α3 α4 α5 α6 α7 α8 α9 α10:Type} {V:α0->α1->α2->α3->α4->α5->α6->α7->α8->α9->α10->A} {O:α0->α1->α2->α3->α4->α5->α6->α7->α8->α9->α10->B} {P0 P1 P2 P3 P4 P5:α0->α1->α2->α3->α4->α5->α6->α7->α8->α9->α10->Prop} {G:A->B->Prop} (v:A) (o:B) (h:∃a0 a1 a2 a3 a4 a5 a6 a7 a8 a9 a10,v=V a0 a1 a2 a3 a4 a5 a6 a7 a8 a9 a10/\o=O a0 a1 a2 a3 a4 a5 a6 a7 a8 a9 a10/\P0 a0 a1 a2 a3 a4 a5 a6 a7 a8 a9 a10/\P1 a0 a1 a2 a3 a4 a5 a6 a7 a8 a9 a10/\P2 a0 a1 a2 a3 a4 a5 a6 a7 a8 a9 a10/\P3 a0 a1 a2 a3 a4 a5 a6 a7 a8 a9 a10/\P4 a0 a1 a2 a3 a4 a5 a6 a7 a8 a9 a10/\P5 a0 a1 a2 a3 a4 a5 a6 a7 a8 a9 a10) (k:∀a0 a1 a2 a3 a4 a5 a6 a7 a8 a9 a10,P0 a0 a1 a2 a3 a4 a5 a6 a7 a8 a9 a10->P1 a0 a1 a2 a3 a4 a5 a6 a7 a8 a9 a10->P2 a0 a1 a2 a3 a4 a5 a6 a7 a8 a9 a10->P3 a0 a1 a2 a3 a4 a5 a6 a7 a8 a9 a10->P4 a0 a1 a2 a3 a4 a5 a6 a7 a8 a9 a10->P5 a0 a1 a2 a3 a4 a5 a6 a7 a8 a9 a10->G (V a0 a1 a2 a3 a4 a5 a6 a7 a8 a9 a10) (O a0 a1 a2 a3 a4 a5 a6 a7 a8 a9 a10)):G v o:=h.elim λ a0 h=>h.elim λ a1 h=>h.elim λ a2 h=>h.elim λ a3 h=>h.elim λ a4 h=>h.elim λ a5 h=>h.elim λ a6 h=>h.elim λ a7 h=>h.elim λ a8 h=>h.elim λ a9 h=>h.elim λ a10 h=>h.1 ▸ h.2.1 ▸ k a0 a1 a2 a3 a4 a5 a6 a7 a8 a9 a10 h.2.2.1 h.2.2.2.1 h.2.2.2.2.1 h.2.2.2.2.2.1 h.2.2.2.2.2.2.1 h.2.2.2.2.2.2.2
theorem IV1_0 {A B α0:Type} {V:α0->A} {O:α0->B} {v:A} {o:B} {a0:α0} (hv:v=V a0) (ho:o=O a0):∃a0,v=V a0/\o=O a0:=⟨a0,hv,ho⟩
theorem IV2_0 {A B α0 α1:Type} {V:α0->α1->A} {O:α0->α1->B} {v:A} {o:B} {a0:α0} {a1:α1} (hv:v=V a0 a1) (ho:o=O a0 a1):∃a0 a1,v=V a0 a1/\o=O a0 a1:=⟨a0,a1,hv,ho⟩
theorem IV3_2 {A B α0 α1 α2:Type} {V:α0->α1->α2->A} {O:α0->α1->α2->B} {P0 P1:α0->α1->α2->Prop} {v:A} {o:B} {a0:α0} {a1:α1} {a2:α2} (hv:v=V a0 a1 a2) (ho:o=O a0 a1 a2) (h0:P0 a0 a1 a2) (h1:P1 a0 a1 a2):∃a0 a1 a2,v=V a0 a1 a2/\o=O a0 a1 a2/\P0 a0 a1 a2/\P1 a0 a1 a2:=⟨a0,a1,a2,hv,ho,h0,h1⟩
theorem IV4_0 {A B α0 α1 α2 α3:Type} {V:α0->α1->α2->α3->A} {O:α0->α1->α2->α3->B} {v:A} {o:B} {a0:α0} {a1:α1} {a2:α2} {a3:α3} (hv:v=V a0 a1 a2 a3) (ho:o=O a0 a1 a2 a3):∃a0 a1 a2 a3,v=V a0 a1 a2 a3/\o=O a0 a1 a2 a3:=⟨a0,a1,a2,a3,hv,ho⟩
theorem IV4_1 {A B α0 α1 α2 α3:Type} {V:α0->α1->α2->α3->A} {O:α0->α1->α2->α3->B} {P0:α0->α1->α2->α3->Prop} {v:A} {o:B} {a0:α0} {a1:α1} {a2:α2} {a3:α3} (hv:v=V a0 a1 a2 a3) (ho:o=O a0 a1 a2 a3) (h0:P0 a0 a1 a2 a3):∃a0 a1 a2 a3,v=V a0 a1 a2 a3/\o=O a0 a1 a2 a3/\P0 a0 a1 a2 a3:=⟨a0,a1,a2,a3,hv,ho,h0⟩
theorem IV5_2 {A B α0 α1 α2 α3 α4:Type} {V:α0->α1->α2->α3->α4->A} {O:α0->α1->α2->α3->α4->B} {P0 P1:α0->α1->α2->α3->α4->Prop} {v:A} {o:B} {a0:α0} {a1:α1} {a2:α2} {a3:α3} {a4:α4} (hv:v=V a0 a1 a2 a3 a4) (ho:o=O a0 a1 a2 a3 a4) (h0:P0 a0 a1 a2 a3 a4) (h1:P1 a0 a1 a2 a3 a4):∃a0 a1 a2 a3 a4,v=V a0 a1 a2 a3 a4/\o=O a0 a1 a2 a3 a4/\P0 a0 a1 a2 a3 a4/\P1 a0 a1 a2 a3 a4:=⟨a0,a1,a2,a3,a4,hv,ho,h0,h1⟩
theorem IV11_6 {A B α0 α1 α2 α3 α4 α5 α6 α7 α8 α9 α10:Type} {V:α0->α1->α2->α3->α4->α5->α6->α7->α8->α9->α10->A} {O:α0->α1->α2->α3->α4->α5->α6->α7->α8->α9->α10->B} {P0 P1 P2 P3 P4 P5:α0->α1->α2->α3->α4->α5->α6->α7->α8->α9->α10->Prop} {v:A} {o:B} {a0:α0} {a1:α1} {a2:α2} {a3:α3} {a4:α4} {a5:α5} {a6:α6} {a7:α7} {a8:α8} {a9:α9} {a10:α10} (hv:v=V a0 a1 a2 a3 a4 a5 a6 a7 a8 a9 a10) (ho:o=O a0 a1 a2 a3 a4 a5 a6 a7 a8 a9 a10) (h0:P0 a0 a1 a2 a3 a4 a5 a6 a7 a8 a9 a10) (h1:P1 a0 a1 a2 a3 a4 a5 a6 a7 a8 a9 a10) (h2:P2 a0 a1 a2 a3 a4 a5 a6 a7 a8 a9 a10) (h3:P3 a0 a1 a2 a3 a4 a5 a6 a7 a8 a9 a10) (h4:P4 a0 a1 a2 a3 a4 a5 a6 a7 a8 a9 a10) (h5:P5 a0 a1 a2 a3 a4 a5 a6 a7 a8 a9 a10):∃a0 a1 a2 a3 a4 a5 a6 a7 a8 a9 a10,v=V a0 a1 a2 a3 a4 a5 a6 a7 a8 a9 a10/\o=O a0 a1 a2 a3 a4 a5 a6 a7 a8 a9 a10/\P0 a0 a1 a2 a3 a4 a5 a6 a7 a8 a9 a10/\P1 a0 a1 a2 a3 a4 a5 a6 a7 a8 a9 a10/\P2 a0 a1 a2 a3 a4 a5 a6 a7 a8 a9 a10/\P3 a0 a1 a2 a3 a4 a5 a6 a7 a8 a9 a10/\P4 a0 a1 a2 a3 a4 a5 a6 a7 a8 a9 a10/\P5 a0 a1 a2 a3 a4 a5 a6 a7 a8 a9 a10:=⟨a0,a1,a2,a3,a4,a5,a6,a7,a8,a9,a10,hv,ho,h0,h1,h2,h3,h4,h5⟩
@[elab_as_elim] theorem map_at {A B:Type} {f:A->B} {l:List A} {i:Nat} {G:B->Prop} {m:B} (h:(l.map f)[i]? = some m) (k:∀a,l[i]? = some a->G (f a)):G m:=by
 rw [getElem?_map] at h;refine E1_2 (Option.map_eq_some_iff.mp h) λ a h1 h2=>?_;exact h2 ▸ k a h1
theorem mem_tl {α:Type} {y a:α} {l:List α} (h:a∈l):a∈y::l:=.tail _ h
theorem len6 {P:List Value->Prop} (h:∀a b c d e f,P [a,b,c,d,e,f]):∀vs:List Value,vs.length=6->P vs:=lenN (n:=6) h
noncomputable def plainM:MV->Bool | .inst _ _=>false | .ptr _=>false | _=>true
section
variable {W:Wd} {I:Info} {r:Nat} {c:Cx W I r} {vals:Vs} {own:Ow} {K:KV} {n:Int} {s:Str} {m:MV} {cv:Value}
theorem kIsi.ref (h:K (.bool true) vals own):kIsi c (.ref 254) K (mRef n) vals own:=kIsi.mk (ref_kit _) (ref_cls _) ref_ptr h
theorem kIsi.nm (h:K (.bool true) vals own):kIsi c (.ref 183) K (mName s) vals own:=kIsi.mk (name_kit _) (nm_cls _) name_ptr h
theorem kIsi.nr (h:K (.bool false) vals own) (q:autoParam (NoRef m) aA):kIsi c (.ref 254) K m vals own:=kIsi.mk (q.kit _) (q.cls _) q.ptr h
theorem kIsi.refN (e:kitOne (KH W) (mType (mRef n)) cv=some false) (h:K (.bool false) vals own):kIsi c cv K (mRef n) vals own:=kIsi.mk e (ref_cls _) ref_ptr h
theorem kIsi.nmN (e:kitOne (KH W) (mType (mName s)) cv=some false) (h:K (.bool false) vals own):kIsi c cv K (mName s) vals own:=kIsi.mk e (nm_cls _) name_ptr h
theorem kIsi.fl (e:kitOne (KH W) (mType m) cv=some false) (h:K (.bool false) vals own) (p:autoParam (plainM m=true) aK):kIsi c cv K m vals own:=kIsi.mk e (λ zz zz q=>by subst q;f_shut p) (λ zz q=>by subst q;f_shut p) h
theorem kIsi.tr (e:kitOne (KH W) (mType m) cv=some true) (h:K (.bool true) vals own) (p:autoParam (plainM m=true) aK):kIsi c cv K m vals own:=kIsi.mk e (λ zz zz q=>by subst q;f_shut p) (λ zz q=>by subst q;f_shut p) h
theorem kSa.nw {K:Vs->Ow->Prop} {own':Ow} {mv:MV} {a dx:Addr} {C:Nat} {x:String} {fs:List (String×MV)} (hm:(a,OV.obj C dx)∈own) (ok:SaOk W C (Str.ofString x)) (u:Up own dx (.fld fs) (.fld (fs++[(x,mv)])) own') (h:K vals own') (hz:fs.length<=900) (nf:(fs.all λ p => !(Str.ofString p.1 == Str.ofString x))=true):kSa c (Str.ofString x) K mv (.ptr a) vals own:=kSa.new ok hm u h hz nf
theorem kC2.eqSf {a b:Str} (e:(a == b)=false) (h:K (.bool false) vals own):kC2 c .Eq (.str a) K (.str b) vals own:=kC2.eqS e h
theorem kC2.eqSt {a b:Str} (e:(a == b)=true) (h:K (.bool true) vals own):kC2 c .Eq (.str a) K (.str b) vals own:=kC2.eqS e h
variable {args:List Expr} {fs:List (String×MV)}
theorem kMf.fetch (h:WA c args (kCall c (.ref 304) [.inst 368 fs] K) vals own) (nf:autoParam ((fs.all λ p => !(Str.ofString p.1 == Str.ofString "fetch"))=true) aQ):kMf c (Str.ofString "fetch") 304 args K (.inst 368 fs) vals own:=kMf.inst mt_fetch h nf
theorem kMf.get (h:WA c args (kCall c (.ref 311) [.inst 368 fs] K) vals own) (nf:autoParam ((fs.all λ p => !(Str.ofString p.1 == Str.ofString "get"))=true) aQ):kMf c (Str.ofString "get") 311 args K (.inst 368 fs) vals own:=kMf.inst mt_get h nf
theorem kMf0.pair (h:kCall c (.ref 251) [.inst 254 fs] K [] vals own) (nf:autoParam ((fs.all λ p => !(Str.ofString p.1 == Str.ofString "pair"))=true) aQ):kMf0 c (Str.ofString "pair") 251 K (.inst 254 fs) vals own:=kMf0.inst mt_pair h nf
theorem kMf0.root (h:kCall c (.ref 360) [.inst 368 fs] K [] vals own) (nf:autoParam ((fs.all λ p => !(Str.ofString p.1 == Str.ofString "root"))=true) aQ):kMf0 c (Str.ofString "root") 360 K (.inst 368 fs) vals own:=kMf0.inst mt_root h nf
end
open Lean in
def rfs (ns:List Name) (red:Bool:=false):MacroM (TSyntax `tactic):=do
 let ts ← ns.toArray.mapM λ n=>if red then `(tactic| with_reducible refine $(mkIdent n) ?_) else `(tactic| refine $(mkIdent n) ?_)
 `(tactic| first $[| $ts:tactic]*)
open Lean in
def rec2 (h t:Name) (self:TSyntax `tactic):MacroM (TSyntax `tactic) := `(tactic| first | (with_reducible exact $(mkIdent h)) | ((with_reducible refine' $(mkIdent t) ?ta);(case ta => $self:tactic)))
open Lean in
def exs (ns:List Name):MacroM (TSyntax `tactic):=do
 let ts ← ns.toArray.mapM λ n => `(tactic| exact $(mkIdent n))
 `(tactic| first $[| $ts:tactic]*)
open Lean in
def mbs (ns:List (Name×String×String)):MacroM (TSyntax `tactic):=do
 let ts ← ns.toArray.mapM λ n => `(tactic| refine $(mkIdent n.1) (x:=PySem.Str.ofString $(quote n.2.1)) (id := $(quote n.2.2)) ?_)
 `(tactic| first $[| $ts:tactic]*)
open Lean in
def mfs (ns:List (Name×Nat×String)):MacroM (TSyntax `tactic):=do
 let ts ← ns.toArray.mapM λ n => `(tactic| refine $(mkIdent n.1) (f := $(quote n.2.1)) (x:=PySem.Str.ofString $(quote n.2.2)) ?_ (by kernel_rfl))
 `(tactic| first $[| $ts:tactic]*)
open Lean in
def stp (tacs:Array (TSyntax `tactic)) (n:Name) (cs:List Nat):MacroM (TSyntax `tactic):=do
 let mut es:Array (TSyntax `term) := #[]
 let mut ts:Array (TSyntax `tactic) := #[]
 for c in cs do
  if c=0 then es:=es.push (←`(?_))
  else
   let h:=mkIdent (←Macro.addMacroScope (.mkSimple s!"z{ts.size}"))
   es:=es.push (←`(?$h:ident))
   ts:=ts.push (←`(tactic| case $h:ident => $(tacs[c - 1]!):tactic))
 ts := #[←`(tactic| refine' $(mkIdent n) $es*)]++ts
 `(tactic| ($[$ts:tactic]*))
open Lean in
def alt (tacs:Array (TSyntax `tactic)) (tbl:List (Name×List Nat)):MacroM (TSyntax `tactic):=do
 let ts ← tbl.toArray.mapM λ (n,cs)=>if cs.isEmpty then `(tactic| refine $(mkIdent n) ?_) else stp tacs n cs
 `(tactic| first $[| $ts:tactic]*)
open Lean in
def mgo (os:Array (TSyntax `term)):MacroM (TSyntax `tactic):=do
 let ts ← os.mapM λ o => `(tactic| refine WE.methB (o := $o) (x:=PySem.Str.ofString "get") (id:="dict.get") ?_)
 `(tactic| first $[| $ts:tactic]*)
set_option compiler.extract_closed false
local macro_rules | `(tactic| ktr_rel)=>do rec2 ``Nm.head ``Nm.tail (←`(tactic| ktr_rel))
local macro_rules | `(tactic| ktn_open)=>do rec2 ``Nt.head ``Nt.tail (←`(tactic| ktn_open))
local macro_rules | `(tactic| k_upd)=>do rec2 ``Up.head ``Up.tail (←`(tactic| k_upd))
local macro_rules | `(tactic| k_mem)=>do `(tactic| first | (with_reducible assumption) | $(←rec2 ``List.mem_cons_self ``mem_tl (←`(tactic| k_mem))):tactic)
local macro_rules | `(tactic| kpc_piece) => `(tactic| first | (with_reducible exact Fd.head) | (refine' Fd.tail ?ta ?tb;(case ta=>decide+kernel);(case tb=>kpc_piece)))
local macro_rules | `(tactic| ktr_call $b:term enter) => `(tactic| (refine' Tl.enter $b ?k1 ?k2 ?k3 (OkI.of ?k4) ?k5 ?k6 ?k7 ?_;(case k1=>rfl);(case k2=>kernel_rfl);(case k3=>repeat constructor);(case k4=>kernel_rfl);(case k5=>first | exact len1 λ zz=>rfl | exact len2 λ zz zz=>rfl | exact len3 λ zz zz zz=>rfl | exact len4 λ zz zz zz zz=>rfl | exact len6 λ zz zz zz zz zz zz=>rfl);(case k6=>rfl);(case k7=>rfl);intro c;ctx_has c))
local macro_rules | `(tactic| ktr_call $g:term call) => `(tactic| (refine WE.callG $g ?_ (by kernel_rfl);k_all))
local macro_rules | `(tactic| kl_some)=>do
 let ts := #[←`(tactic| ktr_rel),← `(tactic| decide+kernel),← `(tactic| kernel_rfl),← exs [``cls_ref,``cls_name,``cls_list,``cls_dict,``cls_int,``cls_bool,``cls_decimal,``cls_string,``cls_stream],← `(tactic| exact isi_bi),← `(tactic| exact .t),← `(tactic| assumption),← `(tactic| (refine' .o ?q;case q=>k_mem))]
 `(tactic| first
 | $(←alt ts [(``WE.name,[1,0,2]),(``WE.attr,[]),(``WE.str,[]),(``WE.int,[]),(``WE.none,[]),(``WE.bool,[]),(``WE.tup,[]),(``WE.cmp,[]),(``WE.bin,[]),(``WE.ite,[]),(``WE.subRun,[]),(``WE.subTo,[]),(``WE.subFrom,[]),(``WE.sub,[]),(``WE.neg,[]),(``WE.notE,[]),(``WE.compR,[0,3]),(``WE.compN,[]),(``WE.compT,[]),(``WE.andV,[]),(``WE.orV,[]),(``WE.bop1,[]),(``WE.isi,[0,4,5,3,3,2])]):tactic
 | $(←mfs [(``WE.methF,304,"fetch"),(``WE.methF0,251,"pair"),(``WE.methF0,360,"root")]):tactic
 | $(←mbs [(``WE.methB,"append","list.append"),(``WE.methB0,"pop","list.pop"),(``WE.methB,"pop","dict.pop")]):tactic
 | $(←mgo #[←`(.Attribute _ (PySem.Str.ofString "table") _)]):tactic
 | ($(←mgo #[←`(.Name _ _)]):tactic;$(←alt ts [(``WE.name,[1,0,2])]):tactic;$(←alt ts [(``kMb.get,[6,0]),(``kMb.get,[7,0]),(``kMb.get,[8,0])]):tactic)
 | refine WE.methF (o:=.Name _ _) (f:=311) (x:=PySem.Str.ofString "get") ?_ (by kernel_rfl) | $(←mgo #[←`(.Call _ _ _ _),← `(.Attribute _ (PySem.Str.ofString "head") _)]):tactic)
local macro_rules | `(tactic| ki_room)=>rfs [``WS.asg,``WS.ret,``WS.ite,``WS.exp,``WS.nil,``WS.set,``WS.seta,``WS.unp2,``WS.unp3,``WS.brk,``WS.asgN,``WS.asgT]
local macro_rules | `(tactic| kpc_obj)=>do
 let ts := #[←`(tactic| ktn_open),← `(tactic| k_mem),← `(tactic| (refine' .o ?q;case q=>k_mem)),← `(tactic| kernel_rfl!),← exs [``at_num,``at_gen,``at_ref,``at_head,``at_above,``at_inh,``at_isp,``at_pref,``at_fields,``at_table,``at_trailer,``at_text],← exs [``sa_num,``sa_gen,``sa_text,``sa_ref,``sa_head,``sa_above,``sa_inh,``sa_isp,``sa_pref,``sa_fields,``sa_table,``sa_trailer],← `(tactic| kpc_piece),← `(tactic| k_upd),← `(tactic| kbd_text),← `(tactic| kernel_rfl),← `(tactic| exact .t),← `(tactic| decide)]
 `(tactic| with_reducible first
 | ((show WE _ _ _ _ _);kl_some) | ((show WS _ _ _ _ _);ki_room)
 | ((show WT _ _ _ _ _);$(←rfs [``WT.not,``WT.andN,``WT.orN,``WT.and,``WT.or,``WT.cmp,``WT.chain,``WT.plain]):tactic)
 | ((show WA _ _ _ _ _);$(←rfs [``WA.nil,``WA.cons]):tactic)
 | $(←alt ts [(``kAsg.mk,[1,0]),(``O1.attr,[5,7,0]),(``kTup.mk,[]),(``kNeg.mk,[]),(``kNotV.f,[]),(``kNotV.mk,[]),(``kTruth.b,[]),(``O1b.bool,[]),(``kTurn.rt,[]),(``kTurn.br,[]),(``kMf.fetch,[]),(``kMf0.pair,[]),(``kMf0.root,[]),(``kMf.get,[]),(``kMb.append,[3,0]),(``kMb.get,[11,0]),(``kMb0.pop,[3,0]),(``kMb.pop,[2,0]),(``kMb.getI,[3,0]),(``kIsi.ref,[]),(``kIsi.nm,[]),(``kIsi.nr,[]),(``kIsi.refN,[4,0]),(``kIsi.nmN,[4,0]),(``kIsi.fl,[4,0]),(``kIsi.tr,[4,0]),(``kUnp.two,[1,1,0]),(``kUnp.three,[1,1,1,0]),(``kSa.nw,[2,6,8,0,9,10]),(``kC2.eqSf,[12,0]),(``kC2.eqSt,[12,0]),(``kAndV.t,[]),(``kAndV.f,[]),(``kOrV.t,[]),(``kOrV.f,[]),(``kB2.add,[]),(``kB2.sub,[])]):tactic
 | exact kFin.end | refine kFin.no ?_)
local macro_rules | `(tactic| k_all) => `(tactic| repeat kpc_obj)
local macro_rules | `(tactic| kpc_g)=>do
 let ts := #[←`(tactic| kpc_g)]
 `(tactic| with_reducible first | exact Fz.nil | $(←alt ts [(``Fz.frz,[1]),(``Fz.same,[1])]):tactic)
theorem pair_ok (W:Wd) (n:Int) (own:Ow):Rd W true 251 2 [mRef n] own (.tup [.int n,.int 0]):=by
 ktr_call [("self",false)] enter
 k_all
theorem fetch_val (W:Wd) {mv:MV} (hr:NoRef mv) (T R:Addr) (own:Ow):Rd W false 304 2 [mShelf T R,mv] own mv:=by
 revert hr;ctx_has W mv T R own
 ktr_call [("self",false),("value",false),("here",false),("hop",false)] enter
 k_all
 refine WS.forR ?_ cls_range (by kernel_rfl)
 obtain ⟨t,ht⟩:=hops (W:=W)
 refine WE.glob (m:=.int (30:Nat)) (λ zz=>.int _ _) ht (by kernel_rfl) ?_
 refine kRng.mk (λ i vals o=>i=0/\vals=[some (mShelf T R),some mv,some mv,none]/\o=own) ⟨rfl,rfl,rfl⟩ ?_ ?_
 · intro c' i vals o hi hE0;refine E0_3 hE0 λ e0_0 e0_1 e0_2=>?_;clear hE0;subst e0_0;subst e0_1;subst e0_2
   refine ⟨_,by ktn_open,?_⟩
   k_all
 · rintro vals o ⟨h,_⟩;f_shut h
theorem fetch_ref (W:Wd) {T R:Addr} {own:Ow} {tab root} (S:Shf own T R tab root) {n:Int} {kvs} (hn:tGet tab n=some kvs):Rd W false 304 2 [mShelf T R,mRef n] own (.dct kvs):=by
 revert S;ctx_has W T R own tab root n kvs
 have hT:=S.t
 ktr_call [("self",false),("value",false),("here",false),("hop",false),("generation",false),("found",false)] enter
 k_all
 refine WS.forR ?_ cls_range (by kernel_rfl)
 obtain ⟨t,ht⟩:=hops (W:=W)
 refine WE.glob (m:=.int (30:Nat)) (λ zz=>.int _ _) ht (by kernel_rfl) ?_
 refine kRng.mk (λ i vals o=>o=own/\((i=0/\vals=[some (mShelf T R),some (mRef n),some (mRef n),none,none,none])\/(i=1/\∃a b c,vals=[some (mShelf T R),some (mRef n),some (.dct kvs),a,b,c]))) ⟨rfl,.inl ⟨rfl,rfl⟩⟩ ?_ ?_
 · rintro c' i vals o hi ⟨rfl,⟨rfl,rfl⟩ | ⟨rfl,a,b,c,rfl⟩⟩
   · refine ⟨_,by ktn_open,?_⟩
     k_all
     refine ON.getI2s (.o hT) (tab_get hn) ?_
     k_all
     refine kC2.ne (d:=false) (by decide) ?_
     k_all
     exact ⟨rfl,.inr ⟨rfl,_,_,_,rfl⟩⟩
   · refine ⟨_,by ktn_open,?_⟩
     k_all
 · rintro vals o ⟨_,⟨h,_⟩ | ⟨h,_⟩⟩ <;> f_shut h
theorem get_ok (W:Wd) {mv:MV} (hr:NoRef mv) (T R:Addr) {own:Ow} {h:MV} {kvs:Kvs} {x:Str} (hR:RdS own h kvs) (hg:mGetD kvs x=mv):Rd W false 311 4 [mShelf T R,h,.str x] own mv:=by
 ktr_call [("self",false),("head",false),("key",false)] enter
 k_all
 refine ON.get1s hR hg ?_
 k_all
 refine kCall.rd (fetch_val W hr T R own) ?_
 k_all
theorem get_ref (W:Wd) {T R:Addr} {own:Ow} {tab root} (S:Shf own T R tab root) {h:MV} {kvs:Kvs} {x:Str} {n:Int} {kvs':Kvs} (hR:RdS own h kvs) (hg:mGetD kvs x=mRef n) (hn:tGet tab n=some kvs'):Rd W false 311 4 [mShelf T R,h,.str x] own (.dct kvs'):=by
 ktr_call [("self",false),("head",false),("key",false)] enter
 k_all
 refine ON.get1s hR hg ?_
 k_all
 refine kCall.rd (fetch_ref W S hn) ?_
 k_all
theorem kids_of_ok (W:Wd) (T R:Addr) (own:Ow) {kvs:Kvs} {ns:List Int} (hg:mGetD kvs (Str.ofString "Kids")=mRefs ns):Rd W false 441 6 [mShelf T R,.dct kvs] own (mRefs ns):=by
 ktr_call [("shelf",false),("head",false),("kids",false)] enter
 k_all
 refine kCall.rd (get_ok W (.lst _) T R .t hg) ?_
 k_all
theorem is_node_ok (W:Wd) (T R:Addr) (own:Ow) {kvs:Kvs} {b:Bool} (hg:mGetD kvs (Str.ofString "Type")=mName (if b then Str.ofString "Pages" else Str.ofString "Page")):Rd W false 434 6 [mShelf T R,.dct kvs] own (.bool b):=by
 ktr_call [("shelf",false),("head",false),("kind",false)] enter
 k_all
 refine kCall.rd (get_ok W (.name _) T R .t hg) ?_
 k_all
 refine kC2.inTs (l:=[Str.ofString "Pages",Str.ofString "Page"]) (b:=true) (by cases b <;> decide) ?_
 k_all
 refine kC2.eqS (d:=b) (by cases b <;> decide) ?_
 k_all
theorem home_of_ok (W:Wd) {T R:Addr} {own:Ow} {tab root} (S:Shf own T R tab root) {n:Int} {kvs} (hn:tGet tab n=some kvs):Rd W false 427 6 [mShelf T R,mRef n] own (mRef n):=by
 have hT:=S.t
 ktr_call [("shelf",false),("value",false),("here",false),("seen",false),("generation",false),("found",false)] enter
 k_all
 refine WE.ict0 λ a=>?_
 k_all
 refine WS.while (n₀:=0) (λ zz vals o=>vals=[some (mShelf T R),some (mRef n),some (mRef n),some (.ptr a),none,none]/\o=(a,.ict [])::own) ⟨rfl,rfl⟩ ?_
 intro zz vals o hQ1;refine EV0_0 hQ1 ?_;clear hQ1 vals o
 k_all
 refine kC2.notinI (b:=true) (.o (.head _)) rfl ?_
 k_all
 refine kSet.int .head (by decide) ?_
 k_all
 refine ON.getI2s (.o (.tail _ hT)) (tab_get hn) ?_
 k_all
 refine kC2.ne (d:=false) (by decide) ?_
 k_all
 exact kFin.drop kFin.end
theorem turned_ok (W:Wd) (own:Ow) (kvs cvs:Kvs) (hz:kvs.length+cvs.length<=900):Rd W false 420 3 [.dct kvs,.dct cvs] own (.dct (turnedF kvs cvs)):=by
 ctx_has W own kvs cvs
 ktr_call [("head",false),("changes",false),("found",false),("key",false)] enter
 k_all
 refine WE.dictC ?_ (by kernel_rfl)
 k_all
 refine kDict.mk .t (by lia) λ a=>?_
 ctx_has a
 k_all
 refine WS.for ?_
 k_all
 refine kForX.keys (λ i vals o=>∃x,vals=[some (.dct kvs),some (.dct cvs),some (.ptr a),x]/\o=(a,.dct (turnedF kvs (cvs.take i)))::own) ⟨_,rfl,rfl⟩ ?_ ?_
 · intro c' i y v vals o hi hg hE0;ctx_has c' i y v vals o;refine EV1_0 vals o hE0 λ x=>?_;ctx_has x;clear hE0 vals o
   have hl:(turnedF kvs (cvs.take i)).length<=900:=by
    have q2:=turnedF_len (cvs.take i) kvs;have q3:=List.length_take_le' i cvs;lia
   have hstep:=foldl_take_succ turn1 kvs cvs i _ hi
   refine ⟨_,by ktn_open,?_⟩
   k_all
   refine kSb2.str .t hg ?_
   rcases Classical.em (v = .none) with rfl | hv
   · k_all
     refine kC2.isY ?_
     k_all
     refine ON.dpop .head hl ?_
     k_all
     exact IV1_0 rfl (by rw [show turnedF kvs (cvs.take (i+1))=_ from hstep];rfl)
   · k_all
     refine kC2.isN hv ?_
     k_all
     refine kSb2.str .t hg ?_
     k_all
     refine kSet.str .head hl ?_
     k_all
     exact IV1_0 rfl (by rw [show turnedF kvs (cvs.take (i+1))=_ from hstep,turn1_some _ _ hv];rfl)
 · intro vals o hE1;refine EV1_0 vals o hE1 λ x=>?_;clear hE1 vals o
   rw [take_length]
   k_all
   exact kFin.dct kFin.end
theorem ref_init (W:Wd) (own:Ow) (n g:MV) (x dx:Addr):Md W true 244 2 [.ptr x,n,g] ((x,.obj 254 dx)::(dx,.fld [])::own) ((x,.obj 254 dx)::(dx,.fld [("number",n),("generation",g)])::own) .none:=by
 ktr_call [("self",false),("number",false),("generation",false)] enter
 k_all
 exact kFin.md
theorem name_init (W:Wd) (own:Ow) (n:MV) (x dx:Addr):Md W true 180 2 [.ptr x,n] ((x,.obj 183 dx)::(dx,.fld [])::own) ((x,.obj 183 dx)::(dx,.fld [("text",n)])::own) .none:=by
 ktr_call [("self",false),("text",false)] enter
 k_all
 exact kFin.md
theorem page_init (W:Wd) (own:Ow) (n g:MV) (x dx:Addr):Md W true 385 2 [.ptr x,n,g] ((x,.obj 388 dx)::(dx,.fld [])::own) ((x,.obj 388 dx)::(dx,.fld [("reference",n),("fields",g)])::own) .none:=by
 ktr_call [("self",false),("reference",false),("fields",false)] enter
 k_all
 exact kFin.md
theorem spot_init (W:Wd) (own:Ow) (a b c d e:MV) (x dx:Addr):Md W true 406 2 [.ptr x,a,b,c,d,e] ((x,.obj 409 dx)::(dx,.fld [])::own) ((x,.obj 409 dx)::(dx,.fld [("reference",a),("head",b),("above",c),("inherited",d),("is_page",e)])::own) .none:=by
 ktr_call [("self",false),("reference",false),("head",false),("above",false),("inherited",false),("is_page",false)] enter
 k_all
 exact kFin.md
noncomputable def INHS:List Str:=[Str.ofString "Resources",Str.ofString "MediaBox",Str.ofString "CropBox",Str.ofString "Rotate"]
structure HdOk (kvs:List (Str×MV)):Prop where
 inh:∀k∈INHS,NoRef (mGetD kvs k)
 len:kvs.length<=20
noncomputable def given1 (kvs g:List (Str×MV)) (k:Str):List (Str×MV):=match mGetD kvs k with | .none=>g | v=>mPut g k v
noncomputable def givenF (inh kvs:List (Str×MV)):List (Str×MV):=INHS.foldl (given1 kvs) inh
theorem given1_len (kvs g k):(given1 kvs g k).length<=g.length+1:=by
 unfold given1;split
 · exact Nat.le_succ _
 · exact mPut_len
theorem foldl_given_len (kvs:List (Str×MV)):∀ (ks:List Str) (g:List (Str×MV)),(ks.foldl (given1 kvs) g).length<=g.length+ks.length
 | [],_=>Nat.le_refl _
 | k::r,g=>by
  have:=foldl_given_len kvs r (given1 kvs g k)
  have q:=given1_len kvs g k
  show (r.foldl (given1 kvs) (given1 kvs g k)).length<=_
  rw [length_cons];lia
theorem given1_none {kvs g k} (h:mGetD kvs k = .none):given1 kvs g k=g:=by unfold given1;rw [h]
theorem given1_some {kvs g k} (h:mGetD kvs k≠.none):given1 kvs g k=mPut g k (mGetD kvs k):=by unfold given1;split <;> simp_all
theorem mGetD_some {kvs:List (Str×MV)} {k} (h:mGetD kvs k≠.none):mGet kvs k=some (mGetD kvs k):=by
 unfold mGetD at *;cases q:mGet kvs k with
 | none=>rw [q] at h;exact absurd rfl h
 | some m=>rfl
theorem spot_new {W:Wd} {I:Info} {r:Nat} {c:Cx W I r} {vals:Vs} {own:Ow} {K:KV} {a b d e f:MV} (h:K (.inst 409 [("reference",a),("head",b),("above",d),("inherited",e),("is_page",f)]) vals own) (hr:autoParam (3<=r) aD):kCall c (.ref 409) [] K [a,b,d,e,f] vals own :=
 kCall.new (hb:=true) (λ x dx=>spot_init W own a b d e f x dx) h (by kernel_rfl) (by kernel_rfl) (by kernel_rfl) hr (.inl rfl)
theorem ref_new {W:Wd} {I:Info} {r:Nat} {c:Cx W I r} {vals:Vs} {own:Ow} {K:KV} {a b:MV} (h:K (.inst 254 [("number",a),("generation",b)]) vals own) (hr:autoParam (3<=r) aD):kCall c (.ref 254) [] K [a,b] vals own :=
 kCall.new (hb:=true) (λ x dx=>ref_init W own a b x dx) h (by kernel_rfl) (by kernel_rfl) (by kernel_rfl) hr (.inl rfl)
theorem name_new {W:Wd} {I:Info} {r:Nat} {c:Cx W I r} {vals:Vs} {own:Ow} {K:KV} {a:MV} (h:K (.inst 183 [("text",a)]) vals own) (hr:autoParam (3<=r) aD):kCall c (.ref 183) [] K [a] vals own :=
 kCall.new (hb:=true) (λ x dx=>name_init W own a x dx) h (by kernel_rfl) (by kernel_rfl) (by kernel_rfl) hr (.inl rfl)
theorem page_new {W:Wd} {I:Info} {r:Nat} {c:Cx W I r} {vals:Vs} {own:Ow} {K:KV} {a b:MV} (h:K (.inst 388 [("reference",a),("fields",b)]) vals own) (hr:autoParam (3<=r) aD):kCall c (.ref 388) [] K [a,b] vals own :=
 kCall.new (hb:=true) (λ x dx=>page_init W own a b x dx) h (by kernel_rfl) (by kernel_rfl) (by kernel_rfl) hr (.inl rfl)
theorem met_ok (W:Wd) {T R:Addr} {own:Ow} {tab root} (S:Shf own T R tab root) {n:Int} {kvs:Kvs} (hn:tGet tab n=some kvs) (hd:HdOk kvs) (above:List Int) {inh:Kvs} (hil:inh.length<=20) {b:Bool} (hg:mGetD kvs (Str.ofString "Type")=mName (if b then Str.ofString "Pages" else Str.ofString "Page")) :
 Rd W false 448 10 [mShelf T R,mRef n,.tup (above.map mRef),.dct inh] own (mSpot n kvs above (givenF inh kvs) (!b)):=by
 revert S hn hd hil;ctx_has W T R own tab root n kvs above inh b
 ktr_call [("shelf",false),("value",false),("above",false),("inherited",false),("reference",false),("head",false),("given",false),("key",false)] enter
 k_all
 ktr_call gl_home_of call
 refine kCall.rd (home_of_ok W S hn) ?_
 k_all
 refine kCall.rd (fetch_ref W S hn) ?_
 k_all
 refine WE.dictC ?_ (by kernel_rfl)
 k_all
 refine kDict.mk .t (by exact Nat.le_trans (by assumption) (by decide)) λ a=>?_
 ctx_has a
 k_all
 refine E5_1 (inh_obj W.w.params) λ t1 t2 t3 t4 k0 hinh=>?_
 ctx_has t1 t2 t3 t4 k0
 refine WS.for ?_
 refine WE.glob (m:=.ptr 371) (λ zz=>.ptr _) cls_inh (by kernel_rfl) ?_
 refine kForX.glob (l:=INHS.map MV.str) hinh (λ zz=>.cons (.str _ _) (.cons (.str _ _) (.cons (.str _ _) (.cons (.str _ _) .nil)))) (λ i vals o=>∃x,vals=[some (mShelf T R),some (mRef n),some (.tup (above.map mRef)),some (.dct inh),some (mRef n),some (.dct kvs),some (.ptr a),x]/\o=(a,.dct ((INHS.take i).foldl (given1 kvs) inh))::own) ⟨_,rfl,rfl⟩ ?_ ?_
 · intro c' i m vals o hi hE1;refine EV1_0 vals o hE1 λ x=>?_;clear hE1 vals o
   refine map_at hi λ k hki=>?_;clear hi m
   ctx_has c' i x k
   have hnr:=hd.inh k (mem_of_getElem? hki)
   have hstep:=foldl_take_succ (given1 kvs) inh INHS i _ hki
   have hfl:((INHS.take i).foldl (given1 kvs) inh).length<=900:=by
    have q2:=foldl_given_len kvs (INHS.take i) inh;have q3:=List.length_take_le' i INHS;have q4:INHS.length=4:=rfl;lia
   refine ⟨_,by ktn_open,?_⟩
   k_all
   refine kCall.rd (get_ok W hnr T R .t rfl) ?_
   k_all
   rcases Classical.em (mGetD kvs k = .none) with hg0 | hg0
   · rw [hg0]
     refine kC2.isnotY ?_
     k_all
     exact IV1_0 rfl (by rw [hstep,given1_none hg0])
   · refine kC2.isnotN hg0 ?_
     k_all
     refine kSb2.str .t (mGetD_some hg0) ?_
     k_all
     refine kSet.str .head hfl ?_
     k_all
     exact IV1_0 rfl (by rw [hstep,given1_some hg0])
 · intro vals o hE3;refine EV1_0 vals o hE3 λ x=>?_;clear hE3 vals o
   ctx_has x
   refine WS.frz .head .dct (by kpc_g) ?_
   k_all
   ktr_call gl_Spot call
   ktr_call gl_is_node call
   refine kCall.rd (is_node_ok W T R own hg) ?_
   k_all
   refine spot_new ?_
   k_all
   exact kFin.end
noncomputable abbrev rootKvs (tab:List (Int×List (Str×MV))):Option Int->Option (List (Str×MV)) | none=>some [] | some n=>tGet tab n
theorem root_ok (W:Wd) {T R:Addr} {own:Ow} {tab root} (S:Shf own T R tab root) {kvs:Kvs} (hr:rootKvs tab root=some kvs):Rd W false 360 6 [mShelf T R] own (.dct kvs):=by
 have hR:=S.r
 ktr_call [("self",false),("found",false)] enter
 k_all
 induction root with
 | none =>
  f_shut hr
  refine kCall.rd (get_ok W .none T R (.o hR) (x:=Str.ofString "Root") (mv:=.none) rfl) ?_
  k_all
  refine WE.dict0 λ a=>?_
  exact kFin.dct kFin.end
 | some n =>
  refine kCall.rd (get_ref W S (.o hR) (x:=Str.ofString "Root") (n:=n) (by with_unfolding_all rfl) hr) ?_
  k_all
structure SpR where
 n:Int
 kvs:Kvs
 above:List Int
 inh:Kvs
 pg:Bool
theorem neSpR:Nonempty SpR:=⟨⟨0,[],[],[],true⟩⟩
noncomputable abbrev SpR.mv (s:SpR):MV:=mSpot s.n s.kvs s.above s.inh s.pg
noncomputable abbrev Ent:=Int×List Int×Kvs
noncomputable abbrev eMV (e:Ent):MV:=.tup [mRef e.1,.tup (e.2.1.map mRef),.dct e.2.2]
inductive Run (tab:List (Int×Kvs)):List Ent->List SpR->Prop
 | nil:Run tab [] []
 | page {n ab inh kvs st out}:tGet tab n=some kvs->HdOk kvs->mGetD kvs (Str.ofString "Type")=mName (Str.ofString "Page")->inh.length<=20->ab.length<=60->Run tab st out->Run tab ((n,ab,inh)::st) (⟨n,kvs,ab,givenF inh kvs,true⟩::out)
 | node {n ab inh kvs ks st out}:tGet tab n=some kvs->HdOk kvs->mGetD kvs (Str.ofString "Type")=mName (Str.ofString "Pages")->inh.length<=20->ab.length<=60->ks.length<=60->mGetD kvs (Str.ofString "Kids")=mRefs ks ->
  Run tab (ks.map (λ k=>(k,ab++[n],givenF inh kvs))++st) out->Run tab ((n,ab,inh)::st) (⟨n,kvs,ab,givenF inh kvs,false⟩::out)
structure Cat (tab:List (Int×Kvs)) (root:Option Int) (n0:Int):Prop where
 ex:∃kvs,rootKvs tab root=some kvs/\mGet kvs (Str.ofString "Pages")=some (mRef n0)
theorem Run.len {tab:List (Int×Kvs)} {st:List Ent} {out:List SpR} (h:Run tab st out):st.length<=out.length:=by
 induction h with
 | nil=>exact Nat.le_refl _
 | page _ _ _ _ _ _ ih=>simp_all
 | node _ _ _ _ _ _ _ _ ih=>simp only [length_append,length_map] at ih;simp only [length_cons];lia
theorem drop_len {α:Type} {l:List α} {i:Nat} {x:α} {r:List α} (h:l.drop i=x::r):i < l.length:=by
 rcases Nat.lt_or_ge i l.length with q | q
 · exact q
 · rw [List.drop_eq_nil_of_le q] at h;f_shut h
theorem drop_get {α:Type} {l:List α} {i:Nat} {x:α} {r:List α} (h:l.drop i=x::r):l[i]? = some x/\l.drop (i+1)=r:=by
 have q:=drop_len h
 rw [List.drop_eq_getElem_cons q] at h
 cases h
 exact ⟨by simp,rfl⟩
theorem run_fresh {out:List SpR} (hnd:(out.map (λ zz=>zz.n)).Nodup) {i:Nat} {s:SpR} {r:List SpR} (h:out.drop i=s::r):s.n∉(out.take i).map (λ zz=>zz.n):=by
 have e:out=out.take i++s::r:=by rw [←h,List.take_append_drop]
 rw [e,map_append,nodup_append] at hnd
 intro hm
 exact hnd.2.2 _ hm s.n (by simp) rfl
theorem take_snoc {α:Type} {l:List α} {i:Nat} {x:α} {r:List α} (h:l.drop i=x::r):l.take (i+1)=l.take i++[x]:=by
 rw [List.take_add_one,(drop_get h).1];rfl
theorem take_snoc' {α:Type} {l:List α} {i:Nat} {x:α} (h:l[i]? = some x):l.take (i+1)=l.take i++[x]:=by
 rw [List.take_add_one,h];rfl
theorem isE_of_len {α:Type} {l:List α} (h:0 < l.length):l.isEmpty=false:=by cases l <;> simp_all
structure SpOk (tab:List (Int×Kvs)) (root:Option Int) (n0:Int) (out:List SpR):Prop where
 cat:Cat tab root n0
 run:Run tab [(n0,[],[])] out
 nd:(out.map (λ zz=>zz.n)).Nodup
 len:out.length<=60
 h0:∀s∈out.head?,s.pg=false
theorem mGet_notin {κ:Type} [DecidableEq κ] {l:List (κ×MV)} {k:κ} (h:k∉l.map (λ zz=>zz.1)):mGet l k=none:=by
 unfold mGet
 rw [Option.map_eq_none_iff,List.find?_eq_none]
 intro p hp hx
 exact h (mem_map.mpr ⟨p,hp,by simpa using hx⟩)
theorem mPut_notin {κ:Type} [DecidableEq κ] {l:List (κ×MV)} {k:κ} {v:MV} (h:k∉l.map (λ zz=>zz.1)):mPut l k v=l++[(k,v)]:=by
 unfold mPut
 rw [if_neg]
 intro q
 refine E1_2 (List.any_eq_true.mp q) λ p hp hx=>?_
 exact h (mem_map.mpr ⟨p,hp,by simpa using hx⟩)
noncomputable abbrev seenM (l:List SpR):List (Int×MV):=l.map λ s=>(s.n,MV.bool true)
theorem seenM_keys (l:List SpR):(seenM l).map (λ zz=>zz.1)=l.map (λ zz=>zz.n):=by simp [seenM,Function.comp_def]
theorem Shf.c {own:Ow} {T R:Addr} {tab root} {p:Addr×OV} (S:Shf own T R tab root):Shf (p::own) T R tab root:=⟨.tail _ S.t,.tail _ S.r⟩
theorem met_pg (W:Wd) {T R:Addr} {own:Ow} {tab root} (S:Shf own T R tab root) {n:Int} {kvs:Kvs} (hn:tGet tab n=some kvs) (hd:HdOk kvs) (above:List Int) {inh:Kvs} (hil:inh.length<=20) {pg:Bool} (hg:mGetD kvs (Str.ofString "Type")=mName (if pg then Str.ofString "Page" else Str.ofString "Pages")) :
 Rd W false 448 10 [mShelf T R,mRef n,.tup (above.map mRef),.dct inh] own (mSpot n kvs above (givenF inh kvs) pg):=by
 cases pg
 · exact met_ok W S hn hd above hil (b:=true) hg
 · exact met_ok W S hn hd above hil (b:=false) hg
noncomputable def Run.I (tab:List (Int×Kvs)) (od:List SpR):List Ent->Prop
 | []=>True
 | (m,ab,inh)::st=>∃kvs pg rest,od=⟨m,kvs,ab,givenF inh kvs,pg⟩::rest/\tGet tab m=some kvs/\HdOk kvs/\mGetD kvs (Str.ofString "Type")=mName (if pg then Str.ofString "Page" else Str.ofString "Pages")/\inh.length<=20/\ab.length<=60 /\
  (if pg then Run tab st rest else ∃ks:List Int,ks.length<=60/\mGetD kvs (Str.ofString "Kids")=mRefs ks/\Run tab (ks.map (λ k=>(k,ab++[m],givenF inh kvs))++st) rest)
theorem Run.inv {tab:List (Int×Kvs)} {l:List Ent} {od:List SpR} (h:Run tab l od):Run.I tab od l:=by
 induction h with
 | nil=>trivial
 | page a b c d e f=>exact ⟨_,true,_,rfl,a,b,c,d,e,f⟩
 | node a b c d e f g h=>exact ⟨_,false,_,rfl,a,b,c,d,e,_,f,g,h⟩
theorem Run.step {tab:List (Int×Kvs)} {m ab inh st od} (h:Run tab ((m,ab,inh)::st) od):∃kvs pg rest,od=⟨m,kvs,ab,givenF inh kvs,pg⟩::rest/\tGet tab m=some kvs/\HdOk kvs/\mGetD kvs (Str.ofString "Type")=mName (if pg then Str.ofString "Page" else Str.ofString "Pages")/\inh.length<=20/\ab.length<=60 /\
 (if pg then Run tab st rest else ∃ks:List Int,ks.length<=60/\mGetD kvs (Str.ofString "Kids")=mRefs ks/\Run tab (ks.map (λ k=>(k,ab++[m],givenF inh kvs))++st) rest):=h.inv
theorem spots_ok (W:Wd) {T R:Addr} {own:Ow} {tab root} (S:Shf own T R tab root) {n0:Int} {out:List SpR} (O:SpOk tab root n0 out):Rd W false 455 14 [mShelf T R] own (.lst (out.map SpR.mv)):=by
 revert S;ctx_has W T R own tab root n0 out
 refine E1_2 (O.cat.ex) λ ckvs hck hcp=>?_
 ctx_has ckvs
 have hnd:=O.nd
 have hlen:=O.len
 ktr_call [("shelf",false),("found",false),("seen",false),("line",false),("value",false),("above",false),("inherited",false),("spot",false),("kid",false)] enter
 k_all
 refine WE.lst (WA.nil (kLst.mk λ fl=>?_))
 ctx_has fl
 k_all
 refine WE.ict0 λ sd=>?_
 ctx_has sd
 k_all
 refine WE.lst ?_
 k_all
 refine kCall.rd (root_ok W S.c.c hck) ?_
 k_all
 refine ON.get1s .t (mv:=mRef n0) (by rw [hcp];rfl) ?_
 k_all
 refine WE.frz (WE.dict0 λ zz=>kFrz.dct .head ?_)
 k_all
 refine kLst.mk λ la=>?_
 ctx_has la
 k_all
 refine WS.while (n₀:=out.length) (λ n vals o=>∃i st x1 x2 x3 x4 x5,vals=[some (mShelf T R),some (.ptr fl),some (.ptr sd),some (.ptr la),x1,x2,x3,x4,x5]/\o=(la,.lst (st.reverse.map eMV))::(sd,.ict (seenM (out.take i)))::(fl,.lst ((out.take i).map SpR.mv))::own/\Run tab st (out.drop i)/\n+i=out.length)
  ⟨0,[(n0,[],[])],none,none,none,none,none,rfl,rfl,O.run,rfl⟩ ?_
 intro n vals o hE2;refine EV7_2 vals o hE2 λ i st x1 x2 x3 x4 x5 hrun hni=>?_;clear hE2 vals o
 ctx_has n i st x1 x2 x3 x4 x5
 have hl1:=hrun.len
 rw [List.length_drop] at hl1
 have hl2:=List.length_take_le' i out
 k_all
 cases st with
 | nil =>
  have hdr:out.drop i=[]:=by generalize out.drop i=o at hrun;f_shut hrun;rfl
  have hti:out.take i=out:=List.take_of_length_le (by simpa using hdr)
  refine O1b.lst (.o (.head _)) (b:=false) rfl (by decide) ?_
  k_all
  rw [hti]
  exact kFin.drop (kFin.drop (kFin.lst kFin.end))
 | cons e st =>
  obtain ⟨m,ab,inh⟩:=e
  ctx_has st m ab inh
  have er:((m,ab,inh)::st).reverse.map eMV=st.reverse.map eMV++[eMV (m,ab,inh)]:=by simp
  rw [er]
  have hz1:(st.reverse.map eMV).length<=900:=by simp only [length_map,length_reverse,length_cons] at *;lia
  have hz2:(st.reverse.map eMV++[eMV (m,ab,inh)]).length<=900:=by simp only [length_map,length_reverse,length_cons,length_append,length_nil] at *;lia
  have hz3:(seenM (out.take i)).length<=900:=by simp only [length_map];lia
  have hz4:((out.take i).map SpR.mv).length<=900:=by simp only [length_map];lia
  refine O1b.lst (.o (.head _)) (b:=true) (by cases (st.reverse.map eMV) <;> rfl) hz2 ?_
  k_all
  refine ON.pop .head hz1 ?_
  k_all
  refine E3_7 (hrun.step) λ kvs pg rest hod hn hd hg hil hab hb=>?_
  ctx_has kvs pg rest
  have hfr:m∉(seenM (out.take i)).map (λ zz=>zz.1):=by rw [seenM_keys];exact run_fresh (s:=⟨m,kvs,ab,givenF inh kvs,pg⟩) hnd hod
  have hdl:=drop_len hod
  have e1:seenM (out.take (i+1))=mPut (seenM (out.take i)) m (.bool true):=by rw [mPut_notin hfr,take_snoc hod];simp [seenM]
  have e2:(out.take (i+1)).map SpR.mv=(out.take i).map SpR.mv++[mSpot m kvs ab (givenF inh kvs) pg]:=by rw [take_snoc hod];simp
  ktr_call gl_met call
  refine kCall.rd (met_pg W S.c.c.c hn hd ab hil hg) ?_
  k_all
  refine kC2.inI (b:=false) (.o (.tail _ (.head _))) (by rw [mGet_notin hfr];rfl) ?_
  k_all
  refine WE.frz (WE.lst (WA.nil (kLst.mk λ zz=>kFrz.lst .head ?_)))
  have hfe:pg=true->((out.take i).map SpR.mv).isEmpty=false:=by
   rintro rfl
   cases i with
   | zero=>rw [List.drop_zero] at hod;have:=O.h0;rw [hod] at this;exact absurd (this _ rfl) (by intro e;f_shut e)
   | succ i=>exact isE_of_len (by rw [length_map,length_take];lia)
  cases pg with
  | true =>
   refine kC2.eqNilL (b:=false) (.o (.tail _ (.tail _ (.head _)))) (hfe rfl) ?_
   k_all
   refine kSet.int (.tail .head) hz3 ?_
   k_all
   refine ON.append (.tail (.tail .head)) hz4 ?_
   k_all
   refine kWT.nx (k:=n - 1) (by lia) ?_
   exact ⟨i+1,st,_,_,_,_,_,rfl,by rw [e1,e2],by rw [(drop_get hod).2];exact hb,by lia⟩
  | false =>
   refine E1_3 hb λ ks hkl hk hb1=>?_
   ctx_has ks
   cases hfe2:((out.take i).map SpR.mv).isEmpty
   all_goals
    refine kC2.eqNilL (.o (.tail _ (.tail _ (.head _)))) hfe2 ?_
    k_all
    refine kSet.int (.tail .head) hz3 ?_
    k_all
    refine ON.append (.tail (.tail .head)) hz4 ?_
    k_all
    refine WS.forV ?_ cls_rev (by kernel_rfl)
    ktr_call gl_kids_of call
    refine kCall.rd (kids_of_ok W T R _ hk) ?_
    refine kRev.lst (λ j vals o=>∃x5,vals=[some (mShelf T R),some (.ptr fl),some (.ptr sd),some (.ptr la),some (mRef m),some (.tup (ab.map mRef)),some (.dct inh),some (mSpot m kvs ab (givenF inh kvs) false),x5]/\o=(la,.lst (st.reverse.map eMV++(ks.reverse.take j).map λ k=>eMV (k,ab++[m],givenF inh kvs)))::(sd,.ict (mPut (seenM (out.take i)) m (.bool true)))::(fl,.lst ((out.take i).map SpR.mv++[mSpot m kvs ab (givenF inh kvs) false]))::own)
     ⟨_,rfl,by simp⟩ ?_ ?_
    · intro c' j mv vals o hj hE6;refine EV1_0 vals o hE6 λ y5=>?_;clear hE6 vals o
      revert hj;ctx_has c' j mv y5
      rw [←List.map_reverse,getElem?_map] at hj
      refine E1_2 (Option.map_eq_some_iff.mp hj) λ k hk2 e7_2=>?_;subst e7_2
      ctx_has y5 k
      have hz5:(st.reverse.map eMV++(ks.reverse.take j).map λ k=>eMV (k,ab++[m],givenF inh kvs)).length<=900:=by
       simp only [length_append,length_map,length_take,length_reverse,length_cons] at *;lia
      refine ⟨_,by ktn_open,?_⟩
      k_all
      refine kB2.addT (List.cons_ne_nil _ _) (by simp only [length_map,length_cons,length_nil];exact Nat.lt_of_le_of_lt (by assumption) (by decide)) ?_
      k_all
      refine ON.append .head hz5 ?_
      k_all
      exact IV1_0 rfl (by rw [take_snoc' hk2];simp)
    · intro vals o hE8;refine EV1_0 vals o hE8 λ y5=>?_;clear hE8 vals o
      ctx_has y5
      k_all
      refine kWT.nx (k:=n - 1) (by lia) ?_
      refine ⟨i+1,ks.map (λ k=>(k,ab++[m],givenF inh kvs))++st,_,_,_,_,_,rfl,?_,by rw [(drop_get hod).2];exact hb1,by lia⟩
      rw [e1,e2,length_map,← length_reverse,take_length]
      simp [List.map_reverse,Function.comp_def]
noncomputable def field1 (kvs inh f:Kvs) (k:Str):Kvs:=match mGet inh k,mGetD kvs k with | some v,.none=>mPut f k v | _,_=>f
noncomputable def fieldsF (kvs inh:Kvs):Kvs:=INHS.foldl (field1 kvs inh) kvs
theorem field1_no {kvs inh f:Kvs} {k:Str} (h:mGet inh k=none):field1 kvs inh f k=f:=by unfold field1;rw [h]
theorem field1_some {kvs inh f:Kvs} {k:Str} {v:MV} (h:mGet inh k=some v) (h2:mGetD kvs k = .none):field1 kvs inh f k=mPut f k v:=by unfold field1;rw [h,h2]
set_option tactic.hygienic true in
theorem field1_has {kvs inh f:Kvs} {k:Str} (h2:mGetD kvs k≠.none):field1 kvs inh f k=f:=by
 ctx_has kvs inh f k
 unfold field1;split
 · rename_i h;exact absurd h h2
 · rfl
theorem field1_len (kvs inh f:Kvs) (k:Str):(field1 kvs inh f k).length<=f.length+1:=by
 ctx_has kvs inh f k
 unfold field1;split
 · exact mPut_len
 · exact Nat.le_succ _
theorem foldl_field_len (kvs inh:Kvs):∀ (ks:List Str) (g:Kvs),(ks.foldl (field1 kvs inh) g).length<=g.length+ks.length
 | [],_=>Nat.le_refl _
 | k::r,g=>by
  have:=foldl_field_len kvs inh r (field1 kvs inh g k)
  have q:=field1_len kvs inh g k
  show (r.foldl (field1 kvs inh) (field1 kvs inh g k)).length<=_
  rw [length_cons];lia
theorem fields_of_ok (W:Wd) (T R:Addr) (own:Ow) {n:Int} {kvs:Kvs} (ab:List Int) {inh:Kvs} (pg:Bool) (hd:HdOk kvs) (hil:inh.length<=20) :
 Rd W false 462 8 [mShelf T R,mSpot n kvs ab inh pg] own (.dct (fieldsF kvs inh)):=by
 ctx_has W T R own n kvs ab inh pg
 have hl3:=hd.len
 ktr_call [("shelf",false),("spot",false),("found",false),("key",false)] enter
 k_all
 refine WE.dictC ?_ (by kernel_rfl)
 k_all
 refine kDict.mk .t (by exact Nat.le_trans (by assumption) (by decide)) λ a=>?_
 ctx_has a
 k_all
 refine E5_1 (inh_obj W.w.params) λ t1 t2 t3 t4 k0 hinh=>?_
 ctx_has t1 t2 t3 t4 k0
 refine WS.for ?_
 refine WE.glob (m:=.ptr 371) (λ zz=>.ptr _) cls_inh (by kernel_rfl) ?_
 refine kForX.glob (l:=INHS.map MV.str) hinh (λ zz=>.cons (.str _ _) (.cons (.str _ _) (.cons (.str _ _) (.cons (.str _ _) .nil)))) (λ i vals o=>∃x,vals=[some (mShelf T R),some (mSpot n kvs ab inh pg),some (.ptr a),x]/\o=(a,.dct ((INHS.take i).foldl (field1 kvs inh) kvs))::own) ⟨_,rfl,rfl⟩ ?_ ?_
 · intro c' i m vals o hi hE1;refine EV1_0 vals o hE1 λ x=>?_;clear hE1 vals o
   refine map_at hi λ k hki=>?_;clear hi m
   ctx_has c' i x k
   have hnr:=hd.inh k (mem_of_getElem? hki)
   have hstep:=foldl_take_succ (field1 kvs inh) kvs INHS i _ hki
   have hfl:((INHS.take i).foldl (field1 kvs inh) kvs).length<=900:=by
    have q2:=foldl_field_len kvs inh (INHS.take i) kvs;have q3:=List.length_take_le' i INHS;have q4:INHS.length=4:=rfl;lia
   refine ⟨_,by ktn_open,?_⟩
   k_all
   cases hik:mGet inh k with
   | none =>
    refine kC2.inS (b:=false) .t (by rw [hik];rfl) ?_
    k_all
    exact IV1_0 rfl (by rw [hstep,field1_no hik])
   | some iv =>
    ctx_has iv
    refine kC2.inS (b:=true) .t (by rw [hik];rfl) ?_
    k_all
    refine kCall.rd (get_ok W hnr T R .t rfl) ?_
    k_all
    rcases Classical.em (mGetD kvs k = .none) with hg0 | hg0
    · rw [hg0]
      refine kC2.isY ?_
      k_all
      refine kSb2.str .t hik ?_
      k_all
      refine kSet.str .head hfl ?_
      k_all
      exact IV1_0 rfl (by rw [hstep,field1_some hik hg0])
    · refine kC2.isN hg0 ?_
      k_all
      exact IV1_0 rfl (by rw [hstep,field1_has hg0])
 · intro vals o hE3;refine EV1_0 vals o hE3 λ x=>?_;clear hE3 vals o
   k_all
   exact kFin.dct kFin.end
theorem page_spots_ok (W:Wd) {T R:Addr} {own:Ow} {tab root} (S:Shf own T R tab root) {n0:Int} {out:List SpR} (O:SpOk tab root n0 out):Rd W false 467 16 [mShelf T R] own (.lst ((out.filter (λ zz=>zz.pg)).map SpR.mv)):=by
 have hlen:=O.len
 ktr_call [("shelf",false)] enter
 k_all
 ktr_call gl_spots call
 refine kCall.rd (spots_ok W S O) ?_
 refine kComp.lst (λ i l o=>l=(((out.take i).filter (λ zz=>zz.pg)).map SpR.mv)/\o=own) .nil ⟨rfl,rfl⟩ ?_ ?_ (by simp;exact Nat.le_trans (by assumption) (by decide))
 · intro c' i mv l o hi hQ1;refine EV0_0 hQ1 ?_;clear hQ1 l o
   refine map_at hi λ sp hsp=>?_;clear hi mv
   have hst:=take_snoc' hsp
   cases hpg:sp.pg
   · show WC c' _ _ _ _ _ [some (mSpot sp.n sp.kvs sp.above sp.inh sp.pg)] own
     rw [hpg]
     k_all
     exact ⟨by rw [hst];simp [hpg],rfl⟩
   · show WC c' _ _ _ _ _ [some (mSpot sp.n sp.kvs sp.above sp.inh sp.pg)] own
     rw [hpg]
     k_all
     exact ⟨by rw [hst];simp [hpg,SpR.mv],rfl⟩
 · intro l o hQ2;refine EV0_0 hQ2 ?_;clear hQ2 l o;intro a
   rw [length_map,take_length]
   exact kFin.lst kFin.end
theorem pages_ok (W:Wd) {T R:Addr} {own:Ow} {tab root} (S:Shf own T R tab root) {n0:Int} {out:List SpR} (O:SpOk tab root n0 out) (hd:∀s∈out,HdOk s.kvs/\s.inh.length<=20) :
 Rd W false 472 18 [mShelf T R] own (.lst ((out.filter (λ zz=>zz.pg)).map λ s=>mPage s.n (fieldsF s.kvs s.inh))):=by
 have hlen:=O.len
 have hflen:(out.filter (λ zz=>zz.pg)).length<=60:=Nat.le_trans (List.length_filter_le _ _) hlen
 ktr_call [("shelf",true)] enter
 k_all
 ktr_call gl_page_spots call
 refine kCall.rd (page_spots_ok W S O) ?_
 refine kComp.lst (λ i l o=>l=(((out.filter (λ zz=>zz.pg)).take i).map λ s=>mPage s.n (fieldsF s.kvs s.inh))/\o=own) (.cons .head (by k_mem) .nil) ⟨rfl,rfl⟩ ?_ ?_ (by simp;exact Nat.le_trans (by assumption) (by decide))
 · intro c' i mv l o hi hQ3;refine EV0_0 hQ3 ?_;clear hQ3 l o
   refine map_at hi λ sp hsp=>?_;clear hi mv
   have hst:=take_snoc' hsp
   obtain ⟨h1,h2⟩:=hd sp (mem_filter.mp (mem_of_getElem? hsp)).1
   k_all
   ktr_call gl_Page call
   ktr_call gl_fields_of call
   refine kCall.rd (fields_of_ok W T R own _ _ h1 h2) ?_
   k_all
   refine page_new ?_
   k_all
   exact ⟨by rw [hst];simp,rfl⟩
 · intro l o hQ4;refine EV0_0 hQ4 ?_;clear hQ4 l o;intro a
   rw [length_map,take_length]
   exact kFin.lst kFin.end
theorem is_count_ok (W:Wd) (own:Ow) {i:Int} (hc:0<=i):Rd W true 486 2 [.int i] own (.bool true):=by
 ktr_call [("value",false)] enter
 k_all
 refine kC2.ge (d:=true) (by simpa using hc) ?_
 k_all
theorem is_count_none (W:Wd) (own:Ow):Rd W true 486 2 [.none] own (.bool false):=by
 ktr_call [("value",false)] enter
 k_all
theorem is_right_page (W:Wd) (T R:Addr) (own:Ow) {n:Int} {kvs:Kvs} {ab:List Int} {inh:Kvs} {v:MV} (hr:NoRef (mGetD kvs (Str.ofString "Count"))):Rd W false 521 6 [mShelf T R,mSpot n kvs ab inh true,v] own (.bool true):=by
 ktr_call [("shelf",false),("spot",false),("count",false),("value",false)] enter
 k_all
 refine kCall.rd (get_ok W hr T R .t rfl) ?_
 k_all
theorem is_right_none (W:Wd) (T R:Addr) (own:Ow) {n:Int} {kvs:Kvs} {ab:List Int} {inh:Kvs} {v:MV} (hc:mGetD kvs (Str.ofString "Count") = .none):Rd W false 521 6 [mShelf T R,mSpot n kvs ab inh false,v] own (.bool false):=by
 ktr_call [("shelf",false),("spot",false),("count",false),("value",false)] enter
 k_all
 refine kCall.rd (get_ok W .none T R .t hc) ?_
 k_all
 ktr_call gl_is_count call
 refine kCall.rd (is_count_none W own) ?_
 k_all
theorem is_right_int (W:Wd) (T R:Addr) (own:Ow) {n:Int} {kvs:Kvs} {ab:List Int} {inh:Kvs} {cnt i:Int} (hc:mGetD kvs (Str.ofString "Count") = .int i) (hc0:0<=i):Rd W false 521 6 [mShelf T R,mSpot n kvs ab inh false,.int cnt] own (.bool (decide (i=cnt))):=by
 ktr_call [("shelf",false),("spot",false),("count",false),("value",false)] enter
 k_all
 refine kCall.rd (get_ok W (.int _) T R .t hc) ?_
 k_all
 ktr_call gl_is_count call
 refine kCall.rd (is_count_ok W own hc0) ?_
 k_all
 refine kC2.eq (d:=decide (i=cnt)) rfl ?_
 k_all
theorem is_parent_root (W:Wd) (T R:Addr) (own:Ow) {n:Int} {kvs:Kvs} {inh:Kvs} {pg:Bool} (hp:mGet kvs (Str.ofString "Parent")=none):Rd W false 514 6 [mShelf T R,mSpot n kvs [] inh pg] own (.bool true):=by
 ktr_call [("shelf",false),("spot",false),("parent",false)] enter
 k_all
 refine ON.get1s .t (mv:=.none) (by rw [hp];rfl) ?_
 k_all
 refine kC2.eqNT (b:=true) rfl ?_
 k_all
 refine kCall.rd (fetch_val W .none T R own) ?_
 k_all
 refine kC2.isY ?_
 k_all
theorem is_parent_no (W:Wd) (T R:Addr) (own:Ow) {n:Int} {kvs:Kvs} {ab:List Int} {p:Int} {inh:Kvs} {pg:Bool} (hp:mGet kvs (Str.ofString "Parent")=none):Rd W false 514 6 [mShelf T R,mSpot n kvs (ab++[p]) inh pg] own (.bool false):=by
 ktr_call [("shelf",false),("spot",false),("parent",false)] enter
 k_all
 refine ON.get1s .t (mv:=.none) (by rw [hp];rfl) ?_
 k_all
 refine kC2.eqNT (b:=false) (by simp) ?_
 k_all
theorem is_parent_ref (W:Wd) (T R:Addr) (own:Ow) {n:Int} {kvs:Kvs} {ab:List Int} {p q:Int} {inh:Kvs} {pg:Bool} (hp:mGet kvs (Str.ofString "Parent")=some (mRef q)):Rd W false 514 6 [mShelf T R,mSpot n kvs (ab++[p]) inh pg] own (.bool (decide (q=p))):=by
 ktr_call [("shelf",false),("spot",false),("parent",false)] enter
 k_all
 refine ON.get1s .t (mv:=mRef q) (by rw [hp];rfl) ?_
 k_all
 refine kC2.eqNT (b:=false) (by simp) ?_
 k_all
 refine kCall.rd (pair_ok W q own) ?_
 k_all
 rw [map_append]
 refine kSb2.lastT ?_
 k_all
 refine kCall.rd (pair_ok W p own) ?_
 refine kC2.eqP rfl ?_
 k_all
theorem SpOk.hd {tab:List (Int×Kvs)} {root:Option Int} {n0:Int} {out:List SpR} (h:SpOk tab root n0 out):∃kvs,tGet tab n0=some kvs/\HdOk kvs/\mGetD kvs (Str.ofString "Type")=mName (Str.ofString "Pages")/\out.head? = some ⟨n0,kvs,[],givenF [] kvs,false⟩:=by
 ctx_has tab root n0 out
 have z:=h.h0
 refine E3_7 h.run.inv λ kvs pg rest e a b c d e2 f=>?_
 rw [e] at z ⊢
 have hp:pg=false:=z _ rfl
 rw [hp] at c ⊢
 exact ⟨kvs,a,b,c,rfl⟩
theorem page_count_ok (W:Wd) {T R:Addr} {own:Ow} {tab root} (S:Shf own T R tab root) {n0:Int} {out:List SpR} (O:SpOk tab root n0 out) {i:Int} (hc0:0<=i) (hc:∀kvs,tGet tab n0=some kvs->mGetD kvs (Str.ofString "Count") = .int i):Rd W false 479 14 [mShelf T R] own (.int i):=by
 refine E1_2 (O.cat.ex) λ ckvs hck hcp=>?_
 refine E1_4 (O.hd) λ kvs t1 t2 t3 zz=>?_
 ktr_call [("shelf",false),("count",false)] enter
 k_all
 ktr_call gl_met call
 refine kCall.rd (root_ok W S hck) ?_
 k_all
 refine ON.get1s .t (mv:=mRef n0) (by rw [hcp];rfl) ?_
 k_all
 refine WE.frz (WE.dict0 λ zz=>kFrz.dct .head ?_)
 k_all
 refine kCall.rd (met_ok W S t1 t2 [] (inh:=[]) (b:=true) (by simp) t3) ?_
 k_all
 refine kCall.rd (get_ok W (.int _) T R .t (hc _ t1)) ?_
 k_all
 ktr_call gl_is_count call
 refine kCall.rd (is_count_ok W own hc0) ?_
 k_all
structure KidRow (tab:List (Int×Kvs)) (k:Int) (kvs:Kvs) (b:Bool) (c:Int):Prop where
 row:tGet tab k=some kvs
 hd:HdOk kvs
 ty:mGetD kvs (Str.ofString "Type")=mName (if b then Str.ofString "Pages" else Str.ofString "Page")
 cnt:(b=false/\c=1)\/(b=true/\mGetD kvs (Str.ofString "Count") = .int c)
 pos:0<=c
inductive Kid (tab:List (Int×Kvs)):List Int->Int->Int->Kvs->Bool->Int->Prop
 | here {k ks kvs b c lf}:KidRow tab k kvs b c->lf < c->Kid tab (k::ks) lf k kvs b lf
 | next {k ks kvs b c lf k' kvs' b' lf'}:KidRow tab k kvs b c->¬ lf < c->Kid tab ks (lf - c) k' kvs' b' lf'->Kid tab (k::ks) lf k' kvs' b' lf'
theorem kid_with_ok (W:Wd) {T R:Addr} {own:Ow} {tab root} (S:Shf own T R tab root) {n:Int} {kvs:Kvs} {ab:List Int} {inh:Kvs} {lf:Int} {ks:List Int} (hks:mGetD kvs (Str.ofString "Kids")=mRefs ks) (hil:inh.length<=20) (hab:ab.length<=60) {k' kvs' b' lf'} (hk':Kid tab ks lf k' kvs' b' lf') :
 Rd W false 500 14 [mShelf T R,mSpot n kvs ab inh false,.int lf] own (.tup [mSpot k' kvs' (ab++[n]) (givenF inh kvs') (!b'),.int lf']):=by
 revert S hks hil hab;ctx_has W T R own tab root n kvs ab inh lf ks k' kvs' b' lf'
 ktr_call [("shelf",false),("spot",false),("left",false),("kid",false),("below",false),("count",false)] enter
 k_all
 refine WS.for ?_
 k_all
 ktr_call gl_kids_of call
 refine kCall.rd (kids_of_ok W T R own hks) ?_
 refine kForX.lst (λ i vals o=>∃lf0 x1 x2 x3,vals=[some (mShelf T R),some (mSpot n kvs ab inh false),some (.int lf0),x1,x2,x3]/\o=own/\Kid tab (ks.drop i) lf0 k' kvs' b' lf') ⟨_,_,_,_,rfl,rfl,hk'⟩ ?_ ?_
 · intro c' i mv vals o hi hE0;refine EV4_1 vals o hE0 λ lf0 x1 x2 x3 hK=>?_;clear hE0 vals o
   refine map_at hi λ k hki=>?_;clear hi mv
   revert hK;ctx_has c' i lf0 x1 x2 x3 k
   have hdr:ks.drop i=k::ks.drop (i+1):=by
    rw [List.drop_eq_getElem_cons (List.getElem?_eq_some_iff.mp hki).1,(List.getElem?_eq_some_iff.mp hki).2]
   rw [hdr] at hK
   obtain ⟨kv,b0,c0,⟨e1,e2,e3,e4,e5⟩,hcase⟩:∃kv b c,KidRow tab k kv b c/\((lf0 < c/\k'=k/\kvs'=kv/\b'=b/\lf'=lf0)\/(¬ lf0 < c/\Kid tab (ks.drop (i+1)) (lf0 - c) k' kvs' b' lf')):=by
    cases hK with
    | here h1 h2=>exact ⟨_,_,_,h1,.inl ⟨h2,rfl,rfl,rfl,rfl⟩⟩
    | next h1 h2 h3=>exact ⟨_,_,_,h1,.inr ⟨h2,h3⟩⟩
   ctx_has kv b0 c0
   refine ⟨_,by ktn_open,?_⟩
   k_all
   ktr_call gl_met call
   refine kB2.addT (List.cons_ne_nil _ _) (by simp only [length_map,length_cons,length_nil];exact Nat.lt_of_le_of_lt (by assumption) (by decide)) ?_
   k_all
   have e6:ab.map mRef++[mRef n]=(ab++[n]).map mRef:=by simp
   rw [e6]
   obtain ⟨pg,hpg⟩:∃pg,pg = !b0:=⟨_,rfl⟩
   ctx_has pg
   refine kCall.rd (met_pg W S e1 e2 (ab++[n]) hil (pg:=pg) (by rw [e3,hpg];cases b0 <;> rfl)) ?_
   k_all
   rcases e4 with ⟨rfl,rfl⟩ | ⟨rfl,e4⟩
   · obtain rfl:pg=true:=hpg
     k_all
     ktr_call gl_is_count call
     refine kCall.rd (is_count_ok W own (by decide)) ?_
     k_all
     rcases hcase with ⟨hlt,rfl,rfl,rfl,rfl⟩ | ⟨hlt,hK'⟩
     · refine kC2.lt (decide_eq_true hlt) ?_
       k_all
       exact kFin.end
     · refine kC2.lt (decide_eq_false hlt) ?_
       k_all
       exact IV4_1 rfl rfl hK'
   · obtain rfl:pg=false:=hpg
     k_all
     refine kCall.rd (get_ok W (.int _) T R .t e4) ?_
     k_all
     ktr_call gl_is_count call
     refine kCall.rd (is_count_ok W own e5) ?_
     k_all
     rcases hcase with ⟨hlt,rfl,rfl,rfl,rfl⟩ | ⟨hlt,hK'⟩
     · refine kC2.lt (decide_eq_true hlt) ?_
       k_all
       exact kFin.end
     · refine kC2.lt (decide_eq_false hlt) ?_
       k_all
       exact IV4_1 rfl rfl hK'
 · intro vals o hE2;refine EV4_1 vals o hE2 λ lf0 x1 x2 x3 hK=>?_;clear hE2 vals o
   ctx_has lf0 x1 x2 x3
   rw [length_map,List.drop_length] at hK
   cases hK
inductive PAt (tab:List (Int×Kvs)):Nat->Int->Kvs->List Int->Kvs->Bool->Int->Int->Kvs->Kvs->Prop
 | page {n kvs ab inh lf}:HdOk kvs->inh.length<=20->PAt tab 0 n kvs ab inh false lf n kvs inh
 | node {d n kvs ab inh lf ks k' kvs' b' lf' n2 kvs2 inh2}:mGetD kvs (Str.ofString "Kids")=mRefs ks->inh.length<=20->ab.length<=60->ab.length<=tab.length->Kid tab ks lf k' kvs' b' lf' ->
  PAt tab d k' kvs' (ab++[n]) (givenF inh kvs') b' lf' n2 kvs2 inh2->PAt tab (d+1) n kvs ab inh true lf n2 kvs2 inh2
theorem page_at_ok (W:Wd) {T R:Addr} {own:Ow} {tab root} (S:Shf own T R tab root) (htab:tab.length<=800) {n0:Int} {out:List SpR} (O:SpOk tab root n0 out) {i:Int} (hc0:0<=i) (hc:∀kvs,tGet tab n0=some kvs->mGetD kvs (Str.ofString "Count") = .int i)
 {at':Int} (ha0:0<=at') (hac:at' < i) {d:Nat} {n2 kvs2 inh2} (hP:∀kvs,tGet tab n0=some kvs->PAt tab d n0 kvs [] (givenF [] kvs) true at' n2 kvs2 inh2) :
 Rd W false 493 20 [mShelf T R,.int at'] own (mPage n2 (fieldsF kvs2 inh2)):=by
 revert S htab O hc0 hc ha0 hac;ctx_has W T R own tab root n0 out i at' d n2 kvs2 inh2
 refine E1_2 (O.cat.ex) λ ckvs hck hcp=>?_
 ctx_has ckvs
 refine E1_4 (O.hd) λ kvs t1 t2 t3 zz=>?_
 ctx_has kvs
 have hT:=S.t
 ktr_call [("shelf",false),("at",false),("spot",false),("left",false)] enter
 k_all
 ktr_call gl_met call
 refine kCall.rd (root_ok W S hck) ?_
 k_all
 refine ON.get1s .t (mv:=mRef n0) (by rw [hcp];rfl) ?_
 k_all
 refine WE.frz (WE.dict0 λ zz=>kFrz.dct .head ?_)
 k_all
 refine kCall.rd (met_ok W S t1 t2 [] (inh:=[]) (b:=true) (by simp) t3) ?_
 k_all
 refine kCh2.t ha0 ?_
 ktr_call gl_page_count call
 refine kCall.rd (page_count_ok W S O hc0 hc) ?_
 refine kC2.lt (decide_eq_true hac) ?_
 k_all
 refine WS.while (n₀:=d) (λ n9 vals o=>∃k kv ab ih b lf pg,pg=(!b)/\vals=[some (mShelf T R),some (.int at'),some (mSpot k kv ab ih pg),some (.int lf)]/\o=own/\PAt tab n9 k kv ab ih b lf n2 kvs2 inh2) ⟨n0,kvs,[],_,true,_,_,rfl,rfl,rfl,hP _ t1⟩ ?_
 intro n9 vals o hE5;ctx_has n9 vals o;refine E7_4 hE5 λ k kv ab ih b lf pg hpg e5_8 e5_9 hPa=>?_;ctx_has k kv ab ih b lf pg;clear hE5;subst e5_8;subst e5_9
 induction hPa with
 | page hhd hil =>
  obtain rfl:pg=true:=hpg
  k_all
  ktr_call gl_Page call
  ktr_call gl_fields_of call
  refine kCall.rd (fields_of_ok W T R o _ _ hhd hil) ?_
  k_all
  refine page_new ?_
  k_all
 | node hks hil hab habt hK hPb =>
  obtain rfl:pg=false:=hpg
  k_all
  refine WE.bi1 ?_ cls_len (by kernel_rfl) (by decide+kernel)
  k_all
  refine kF1.lenT (by rw [length_map];lia) ?_
  k_all
  refine WE.bi1 ?_ cls_len (by kernel_rfl) (by decide+kernel)
  k_all
  refine kF1.lenI (.o hT) (by rw [length_map];exact Nat.le_trans (by assumption) (by decide)) ?_
  refine kC2.gt (d:=false) (by simp only [length_map];simp;omega) ?_
  k_all
  ktr_call gl_kid_with call
  refine kCall.rd (kid_with_ok W S hks hil hab hK) ?_
  k_all
  exact kWT.nx (Nat.lt_succ_self _) ⟨_,_,_,_,_,_,_,rfl,rfl,rfl,hPb⟩
noncomputable def cGet (c:List (Int×Int)) (n:Int):Option Int:=(c.find? λ p=>p.1=n).map (λ zz=>zz.2)
noncomputable def bump (c:List (Int×Int)) (a:Int):List (Int×Int):=c.map λ p=>if p.1=a then (p.1,p.2+1) else p
noncomputable def cnt0 (out:List SpR):List (Int×Int):=out.map λ s=>(s.n,if s.pg then 1 else 0)
noncomputable def cnt1 (c:List (Int×Int)) (s:SpR):List (Int×Int):=if s.pg then s.above.foldl bump c else c
noncomputable def countsF (out:List SpR):List (Int×Int):=out.foldl cnt1 (cnt0 out)
noncomputable abbrev cntM (c:List (Int×Int)):List (Int×MV):=c.map λ p=>(p.1,MV.int p.2)
theorem cntM_get {c:List (Int×Int)} {n i:Int} (e:cGet c n=some i):mGet (cntM c) n=some (.int i):=by
 unfold mGet;rw [find_map n MV.int c,show (c.find? λ p=>p.1=n).map (λ zz=>zz.2)=some i from e];rfl
theorem cGet_mem {c:List (Int×Int)} {n i:Int} (e:cGet c n=some i):n∈c.map (λ zz=>zz.1):=by
 unfold cGet at e
 refine E1_2 (Option.map_eq_some_iff.mp e) λ p hp zz=>?_
 exact mem_map.mpr ⟨p,mem_of_find?_eq_some hp,by simpa using List.find?_some hp⟩
theorem cGet_has {c:List (Int×Int)} {n:Int} (e:n∈c.map (λ zz=>zz.1)):∃i,cGet c n=some i:=by
 unfold cGet
 cases h:c.find? λ p=>p.1=n with
 | some p=>exact ⟨_,rfl⟩
 | none =>
  refine E1_2 (mem_map.mp e) λ p hp e1_2=>?_;subst e1_2
  have:=List.find?_eq_none.mp h p hp
  simp at this
theorem cGet_all {x i:Int}:∀ {c:List (Int×Int)},(c.map (λ zz=>zz.1)).Nodup->cGet c x=some i->∀p∈c,p.1=x->p.2=i
 | [],_,_,p,hp,_=>by f_shut hp
 | z::r,nd,e,p,hp,hpx=>by
  rw [map_cons,nodup_cons] at nd
  by_cases hz:z.1=x
  · have e1:z.2=i:=by simpa [cGet,hz] using e
    rcases mem_cons.mp hp with rfl | hp
    · exact e1
    · exact absurd (mem_map.mpr ⟨p,hp,hpx.trans hz.symm⟩) nd.1
  · rcases mem_cons.mp hp with rfl | hp
    · exact absurd hpx hz
    · exact cGet_all nd.2 (by simpa [cGet,hz] using e) p hp hpx
theorem cntM_bump {c:List (Int×Int)} {x i:Int} (nd:(c.map (λ zz=>zz.1)).Nodup) (e:cGet c x=some i):mPut (cntM c) x (.int (i+1))=cntM (bump c x):=by
 ctx_has c x i
 have hx:=cGet_mem e
 unfold mPut bump
 rw [if_pos (by refine E1_2 (mem_map.mp hx) λ p hp q=>?_;exact List.any_eq_true.mpr ⟨(p.1,.int p.2),mem_map.mpr ⟨p,hp,rfl⟩,by simpa using q⟩)]
 unfold cntM
 rw [map_map,map_map]
 refine List.map_congr_left λ p hp=>?_
 by_cases q:p.1=x
 · simp [q,cGet_all nd e p hp q]
 · simp [q]
theorem bump_keys (c:List (Int×Int)) (a:Int):(bump c a).map (λ zz=>zz.1)=c.map (λ zz=>zz.1):=by
 unfold bump;rw [map_map];refine List.map_congr_left λ p zz=>?_
 simp only [Function.comp];split <;> rfl
theorem foldl_bump_keys:∀ (l:List Int) (c:List (Int×Int)),(l.foldl bump c).map (λ zz=>zz.1)=c.map (λ zz=>zz.1)
 | [],_=>rfl
 | a::r,c=>by rw [foldl_cons,foldl_bump_keys r,bump_keys]
theorem cnt1_keys (c:List (Int×Int)) (s:SpR):(cnt1 c s).map (λ zz=>zz.1)=c.map (λ zz=>zz.1):=by unfold cnt1;split;exact foldl_bump_keys _ _;rfl
theorem foldl_cnt1_keys:∀ (l:List SpR) (c:List (Int×Int)),(l.foldl cnt1 c).map (λ zz=>zz.1)=c.map (λ zz=>zz.1)
 | [],_=>rfl
 | a::r,c=>by rw [foldl_cons,foldl_cnt1_keys r,cnt1_keys]
theorem cnt0_keys (out:List SpR):(cnt0 out).map (λ zz=>zz.1)=out.map (λ zz=>zz.n):=by unfold cnt0;rw [map_map];rfl
theorem cntM_keys (c:List (Int×Int)):(cntM c).map (λ zz=>zz.1)=c.map (λ zz=>zz.1):=by simp [Function.comp_def]
theorem drop_of {α:Type} {l:List α} {i:Nat} {x:α} (h:l[i]? = some x):l.drop i=x::l.drop (i+1):=by
 rw [List.drop_eq_getElem_cons (List.getElem?_eq_some_iff.mp h).1,(List.getElem?_eq_some_iff.mp h).2]
theorem counts_of_ok (W:Wd) (own:Ow) {out:List SpR} (nd:(out.map (λ zz=>zz.n)).Nodup) (hab:∀s∈out,∀a∈s.above,a∈out.map (λ zz=>zz.n)) (hlen:out.length<=60):Rd W false 507 4 [.lst (out.map SpR.mv)] own (.ict (cntM (countsF out))):=by
 ctx_has W own out
 ktr_call [("found",false),("counts",false),("spot",false),("node",false)] enter
 k_all
 refine WE.ict0 λ a=>?_
 ctx_has a
 k_all
 refine WS.for ?_
 k_all
 refine kForX.lst (λ i vals o=>∃x1 x2,vals=[some (.lst (out.map SpR.mv)),some (.ptr a),x1,x2]/\o=(a,.ict (cntM (cnt0 (out.take i))))::own) ⟨_,_,rfl,rfl⟩ ?_ ?_
 · intro c' i mv vals o hi hE3;refine EV2_0 vals o hE3 λ x1 x2=>?_;clear hE3 vals o
   refine map_at hi λ sp hsp=>?_;clear hi mv
   ctx_has c' i x1 x2 sp
   have hst:=take_snoc' hsp
   have hz:(cntM (cnt0 (out.take i))).length<=900:=by have:=List.length_take_le' i out;simp only [cnt0,length_map];lia
   have hfr:sp.n∉(cntM (cnt0 (out.take i))).map (λ zz=>zz.1):=by rw [cntM_keys,cnt0_keys];exact run_fresh (s:=sp) nd (drop_of hsp)
   have e1:cntM (cnt0 (out.take (i+1)))=mPut (cntM (cnt0 (out.take i))) sp.n (.int (if sp.pg then 1 else 0)):=by rw [mPut_notin hfr,hst];simp [cnt0]
   refine ⟨_,by ktn_open,?_⟩
   show WS c' _ _ [_,_,some (mSpot sp.n sp.kvs sp.above sp.inh sp.pg),_] _
   cases hpg:sp.pg
   all_goals
    rw [hpg] at e1
    k_all
    refine kSet.int .head hz ?_
    k_all
    exact IV2_0 rfl (by rw [e1];rfl)
 · intro vals o hE5;refine EV2_0 vals o hE5 λ x1 x2=>?_;clear hE5 vals o
   ctx_has x1 x2
   rw [length_map,take_length]
   k_all
   refine WS.for ?_
   k_all
   refine kForX.lst (λ i vals o=>∃x1 x2,vals=[some (.lst (out.map SpR.mv)),some (.ptr a),x1,x2]/\o=(a,.ict (cntM ((out.take i).foldl cnt1 (cnt0 out))))::own) ⟨_,_,rfl,rfl⟩ ?_ ?_
   · intro c' i mv vals o hi hE6;refine EV2_0 vals o hE6 λ y1 y2=>?_;clear hE6 vals o
     refine map_at hi λ sp hsp=>?_;clear hi mv
     ctx_has c' i y1 y2 sp
     have hin:=mem_of_getElem? hsp
     have hstep:=foldl_take_succ cnt1 (cnt0 out) out i _ hsp
     refine ⟨_,by ktn_open,?_⟩
     show WS c' _ _ [_,_,some (mSpot sp.n sp.kvs sp.above sp.inh sp.pg),_] _
     cases hpg:sp.pg
     · k_all
       exact IV2_0 rfl (by rw [hstep,cnt1,hpg];rfl)
     · k_all
       refine WS.for ?_
       k_all
       refine kForX.tup (λ j vals o=>∃x2,vals=[some (.lst (out.map SpR.mv)),some (.ptr a),some (mSpot sp.n sp.kvs sp.above sp.inh true),x2]/\o=(a,.ict (cntM ((sp.above.take j).foldl bump ((out.take i).foldl cnt1 (cnt0 out)))))::own) ⟨_,rfl,rfl⟩ ?_ ?_
       · intro c2 j mv vals o hj hE8;refine EV1_0 vals o hE8 λ z2=>?_;clear hE8 vals o
         refine map_at hj λ an han=>?_;clear hj mv
         ctx_has c2 j z2 an
         have hkeys:((sp.above.take j).foldl bump ((out.take i).foldl cnt1 (cnt0 out))).map (λ zz=>zz.1)=out.map (λ zz=>zz.n):=by rw [foldl_bump_keys,foldl_cnt1_keys,cnt0_keys]
         obtain ⟨ci,hci⟩:=cGet_has (n:=an) (by rw [hkeys];exact hab _ hin _ (mem_of_getElem? han))
         ctx_has ci
         have hz:(cntM ((sp.above.take j).foldl bump ((out.take i).foldl cnt1 (cnt0 out)))).length<=900:=by have q2:=congrArg List.length hkeys;simp only [length_map] at q2 ⊢;lia
         have hst2:=foldl_take_succ bump ((out.take i).foldl cnt1 (cnt0 out)) sp.above j _ han
         refine ⟨_,by ktn_open,?_⟩
         k_all
         refine kSb2.int (.o (.head _)) (cntM_get hci) ?_
         k_all
         refine kSet.int .head hz ?_
         k_all
         exact IV1_0 rfl (by rw [hst2,← cntM_bump (by rw [hkeys];exact nd) hci])
       · intro vals o hE10;refine EV1_0 vals o hE10 λ z2=>?_;clear hE10 vals o
         ctx_has z2
         rw [length_map,take_length]
         k_all
         exact IV2_0 rfl (by rw [hstep,cnt1,hpg];rfl)
   · intro vals o hE11;refine EV2_0 vals o hE11 λ y1 y2=>?_;clear hE11 vals o
     rw [length_map,take_length]
     k_all
     exact kFin.ict kFin.end
inductive SpPar:SpR->Bool->Prop
 | root {s:SpR}:s.above=[]->mGet s.kvs (Str.ofString "Parent")=none->SpPar s true
 | no {s:SpR} {ab:List Int} {p:Int}:s.above=ab++[p]->mGet s.kvs (Str.ofString "Parent")=none->SpPar s false
 | ref {s:SpR} {ab:List Int} {p q:Int}:s.above=ab++[p]->mGet s.kvs (Str.ofString "Parent")=some (mRef q)->SpPar s (decide (q=p))
inductive SpCnt:SpR->Int->Bool->Prop
 | page {s:SpR} {c:Int}:s.pg=true->mGetD s.kvs (Str.ofString "Count") = .none->SpCnt s c true
 | none {s:SpR} {c:Int}:s.pg=false->mGetD s.kvs (Str.ofString "Count") = .none->SpCnt s c false
 | int {s:SpR} {c i:Int}:s.pg=false->mGetD s.kvs (Str.ofString "Count") = .int i->0<=i->SpCnt s c (decide (i=c))
theorem is_parent_b (W:Wd) (T R:Addr) (own:Ow) {s:SpR} {b:Bool} (hp:SpPar s b):Rd W false 514 6 [mShelf T R,s.mv] own (.bool b):=by
 obtain ⟨n,kvs,ab,inh,pg⟩:=s
 induction hp with
 | root h1 h2=>simp only at h1 h2;subst h1;exact is_parent_root W T R own h2
 | no h1 h2=>simp only at h1 h2;subst h1;exact is_parent_no W T R own h2
 | ref h1 h2=>simp only at h1 h2;subst h1;exact is_parent_ref W T R own h2
theorem is_right_b (W:Wd) (T R:Addr) (own:Ow) {s:SpR} {c:Int} {b:Bool} (hc:SpCnt s c b):Rd W false 521 6 [mShelf T R,s.mv,.int c] own (.bool b):=by
 obtain ⟨n,kvs,ab,inh,pg⟩:=s
 induction hc with
 | page h1 h2=>simp only at h1 h2;subst h1;exact is_right_page W T R own (by rw [h2];exact .none)
 | none h1 h2=>simp only at h1 h2;subst h1;exact is_right_none W T R own h2
 | int h1 h2 h3=>simp only at h1 h2;subst h1;exact is_right_int W T R own h2 h3
structure SpGood (cnt:List (Int×Int)) (s:SpR):Prop where
 par:SpPar s true
 cnt:∃c,cGet cnt s.n=some c/\SpCnt s c true
 box:s.pg=true->(mGet s.inh (Str.ofString "MediaBox")).isSome=true
theorem page_faults_ok (W:Wd) {T R:Addr} {own:Ow} {tab root} (S:Shf own T R tab root) {n0:Int} {out:List SpR} (O:SpOk tab root n0 out) (hab:∀s∈out,∀a∈s.above,a∈out.map (λ zz=>zz.n)) (hg:∀s∈out,SpGood (countsF out) s):Rd W false 528 16 [mShelf T R] own (.lst []):=by
 revert S;ctx_has W T R own tab root n0 out
 ktr_call [("shelf",false),("found",false),("counts",false),("faults",false),("spot",false),("number",false)] enter
 k_all
 ktr_call gl_spots call
 refine kCall.rd (spots_ok W S O) ?_
 k_all
 ktr_call gl_counts_of call
 refine kCall.rd (counts_of_ok W own O.nd hab O.len) ?_
 k_all
 refine WE.lst (WA.nil (kLst.mk λ a=>?_))
 ctx_has a
 k_all
 refine WS.for ?_
 k_all
 refine kForX.lst (λ i vals o=>∃x1 x2,vals=[some (mShelf T R),some (.lst (out.map SpR.mv)),some (.ict (cntM (countsF out))),some (.ptr a),x1,x2]/\o=(a,.lst [])::own) ⟨_,_,rfl,rfl⟩ ?_ ?_
 · intro c' i mv vals o hi hE14;ctx_has c' i mv vals o;refine EV2_0 vals o hE14 λ x1 x2=>?_;ctx_has x1 x2;clear hE14 vals o
   refine map_at hi λ sp hsp=>?_;ctx_has sp;clear hi mv
   obtain ⟨hpar,⟨cc,hcg,hcn⟩,hbox⟩:=hg sp (mem_of_getElem? hsp)
   ctx_has cc
   obtain ⟨n,kvs,ab,inh,pg⟩:=sp
   ctx_has n kvs ab inh pg
   refine ⟨_,by ktn_open,?_⟩
   k_all
   ktr_call gl_is_parent call
   refine kCall.rd (is_parent_b W T R _ hpar) ?_
   k_all
   ktr_call gl_is_right_count call
   refine kSb2.int .t (cntM_get hcg) ?_
   k_all
   refine kCall.rd (is_right_b W T R _ hcn) ?_
   k_all
   cases pg
   · k_all
     exact IV2_0 rfl rfl
   · k_all
     refine kC2.notinS (b:=false) .t (by rw [hbox rfl];rfl) ?_
     k_all
     exact IV2_0 rfl rfl
 · intro vals o hE17;refine EV2_0 vals o hE17 λ x1 x2=>?_;clear hE17 vals o
   k_all
   exact kFin.lst kFin.end
noncomputable abbrev rowMV (kvs:Kvs):MV:=.tup [.int 0,.dct kvs]
noncomputable def tPut (tab:List (Int×Kvs)) (n:Int) (kvs:Kvs):List (Int×Kvs):=if tab.any (λ p=>p.1=n) then tab.map (λ p=>if p.1=n then (p.1,kvs) else p) else tab++[(n,kvs)]
theorem tPut_row (tab:List (Int×Kvs)) (n:Int) (kvs:Kvs):tabM (tPut tab n kvs)=mPut (tabM tab) n (rowMV kvs):=by
 ctx_has tab n kvs
 unfold tPut mPut
 have e:(tabM tab).any (λ kv=>decide (kv.1=n))=tab.any λ p=>decide (p.1=n):=by rw [List.any_map];rfl
 rw [e]
 split
 · unfold tabM
   rw [map_map,map_map]
   refine List.map_congr_left λ p zz=>?_
   simp only [Function.comp]
   split <;> rfl
 · simp [tabM]
theorem tabM_keys (tab:List (Int×Kvs)):(tabM tab).map (λ zz=>zz.1)=tab.map (λ zz=>zz.1):=by simp [Function.comp_def]
noncomputable def keysTo (k:Nat):List Int:=(List.range k).map λ (i:Nat)=>(i:Int)+1
theorem keysTo_mem {k i:Nat}:((i:Int)+1∈keysTo k)↔i < k:=by
 unfold keysTo
 rw [mem_map]
 constructor
 · rintro ⟨j,hj,e⟩;have:=List.mem_range.mp hj;lia
 · intro h;exact ⟨i,List.mem_range.mpr h,rfl⟩
theorem Up.mem' {own own':Ow} {a:Addr} {ov ov':OV} (h:Up own a ov ov' own'):(a,ov')∈own':=by
 induction h with
 | head=>exact .head _
 | tail zz ih=>exact .tail _ ih
theorem Up.keep {own own':Ow} {a:Addr} {ov ov':OV} (h:Up own a ov ov' own') {p:Addr×OV} (hp:p∈own) (ne:p≠(a,ov)):p∈own':=by
 induction h with
 | head =>
  rcases mem_cons.mp hp with e | hp
  · exact absurd e ne
  · exact .tail _ hp
 | tail zz ih =>
  rcases mem_cons.mp hp with e | hp
  · rw [e];exact .head _
  · exact .tail _ (ih hp ne)
noncomputable abbrev UpT (own:Ow) (T:Addr) (tab tab':List (Int×Kvs)) (own':Ow):Prop:=Up own T (.ict (tabM tab)) (.ict (tabM tab')) own'
theorem Shf.up {own own':Ow} {T R:Addr} {tab root tab'} (S:Shf own T R tab root) (U:UpT own T tab tab' own'):Shf own' T R tab' root:=⟨U.mem',U.keep S.r (λ e=>by cases e)⟩
theorem put_ok (W:Wd) {T:Addr} (R:Addr) {own own':Ow} {tab} (hz:tab.length<=800) {n:Int} {kvs:Kvs} (U:UpT own T tab (tPut tab n kvs) own'):Md W false 332 3 [mShelf T R,.int n,.int 0,.dct kvs] own own' .none:=by
 ktr_call [("self",false),("number",false),("generation",false),("value",false)] enter
 k_all
 refine kSet.int (by rw [←tPut_row];exact U) (by rw [length_map];exact Nat.le_trans (by assumption) (by decide)) ?_
 k_all
 exact kFin.md
theorem lay_ok (W:Wd) {T:Addr} (R:Addr) {own own':Ow} {tab} (hz:tab.length<=800) {n:Int} {kvs:Kvs} (U:UpT own T tab (tPut tab n kvs) own'):Md W false 542 5 [mShelf T R,mRef n,.dct kvs] own own' .none:=by
 ktr_call [("shelf",false),("reference",false),("head",false)] enter
 k_all
 refine' WE.methF (f:=332) (x:=Str.ofString "put") ?_ (by kernel_rfl)
 k_all
 refine kMf.inst mt_put ?_
 k_all
 refine kCall.md (put_ok W R hz U) ?_
 k_all
 exact kFin.md
theorem add_ok (W:Wd) {T:Addr} (R:Addr) {own own':Ow} {tab:List (Int×Kvs)} (hz:tab.length<=800) {k:Nat} (hk:tab.map (λ zz=>zz.1)=keysTo k) {kvs:Kvs} (U:UpT own T tab (tab++[((k:Int)+1,kvs)]) own'):Md W false 339 5 [mShelf T R,.dct kvs] own own' (mRef ((k:Int)+1)):=by
 revert hz hk;ctx_has W T R own own' tab k kvs
 have hT:=U.mem
 have hkn:((k:Int)+1)∉(tabM tab).map (λ zz=>zz.1):=by rw [tabM_keys,hk];intro q;exact absurd (keysTo_mem.mp q) (Nat.lt_irrefl _)
 have e1:mPut (tabM tab) ((k:Int)+1) (rowMV kvs)=tabM (tab++[((k:Int)+1,kvs)]):=by rw [mPut_notin hkn];simp [tabM]
 ktr_call [("self",false),("value",false),("number",false)] enter
 k_all
 refine WS.while (n₀:=k) (λ n9 vals o=>∃i:Nat,vals=[some (mShelf T R),some (.dct kvs),some (.int ((i:Int)+1))]/\o=own/\n9+i=k) ⟨0,rfl,rfl,rfl⟩ ?_
 intro n9 vals o hE1;refine EV1_1 vals o hE1 λ i hni=>?_;clear hE1 vals o
 ctx_has n9 i
 k_all
 cases n9 with
 | zero =>
  obtain rfl:i=k:=by lia
  refine kC2.inI (b:=false) (.o hT) (by rw [mGet_notin hkn];rfl) ?_
  k_all
  refine kSet.int (by rw [e1];exact U) (by rw [length_map];exact Nat.le_trans (by assumption) (by decide)) ?_
  k_all
  ktr_call gl_Reference call
  refine ref_new ?_
  k_all
  exact kFin.md
 | succ n9 =>
  ctx_has n9
  have hin:((i:Int)+1)∈tab.map (λ zz=>zz.1):=by rw [hk];exact keysTo_mem.mpr (by lia)
  have hs:(mGet (tabM tab) ((i:Int)+1)).isSome=true:=by
   refine E1_2 (mem_map.mp hin) λ p hp e=>?_
   unfold mGet
   rw [Option.isSome_map,List.find?_isSome]
   exact ⟨(p.1,.tup [.int 0,.dct p.2]),mem_map.mpr ⟨p,hp,rfl⟩,by simpa using e⟩
  refine kC2.inI (b:=true) (.o hT) hs ?_
  k_all
  exact kWT.nx (Nat.lt_succ_self _) ⟨i+1,by simp,rfl,by lia⟩
noncomputable def parV (s:SpR):MV:=match s.above.getLast? with | none=>.none | some p=>mRef p
noncomputable def chg (s:SpR) (bp:Bool) (c:Int) (bc:Bool):Kvs:=(if bp then [] else [(Str.ofString "Parent",parV s)])++(if bc then [] else [(Str.ofString "Count",.int c)])
theorem chg_len (s:SpR) (bp c bc):(chg s bp c bc).length<=2:=by cases bp <;> cases bc <;> simp [chg]
noncomputable def stl1 (tab:List (Int×Kvs)) (s:SpR) (bp:Bool) (c:Int) (bc:Bool):List (Int×Kvs):=if bp && bc then tab else tPut tab s.n (turnedF s.kvs (chg s bp c bc))
inductive Stl (cnt:List (Int×Int)):List (Int×Kvs)->List SpR->List (Int×Kvs)->Prop
 | nil {tab}:Stl cnt tab [] tab
 | cons {tab s r tab' bp c bc}:SpPar s bp->cGet cnt s.n=some c->SpCnt s c bc->Stl cnt (stl1 tab s bp c bc) r tab'->Stl cnt tab (s::r) tab'
noncomputable def Stl.I (cnt:List (Int×Int)) (tab tab':List (Int×Kvs)):List SpR->Prop
 | []=>tab'=tab
 | s::r=>∃bp c bc,SpPar s bp/\cGet cnt s.n=some c/\SpCnt s c bc/\Stl cnt (stl1 tab s bp c bc) r tab'
theorem Stl.inv {cnt:List (Int×Int)} {tab tab':List (Int×Kvs)} {l:List SpR} (h:Stl cnt tab l tab'):Stl.I cnt tab tab' l:=by
 induction h with
 | nil=>exact rfl
 | cons a b c d zz=>exact ⟨_,_,_,a,b,c,d⟩
theorem tPut_len (tab:List (Int×Kvs)) (n:Int) (kvs:Kvs):(tPut tab n kvs).length<=tab.length+1:=by unfold tPut;split <;> simp
theorem stl1_len (tab:List (Int×Kvs)) (s bp c bc):(stl1 tab s bp c bc).length<=tab.length+1:=by unfold stl1;split;exact Nat.le_succ _;exact tPut_len _ _ _
section
variable {W:Wd} {I:Info} {r:Nat} {c:Cx W I r} {vals vals':Vs} {own own':Ow}
theorem kC2.neEmp {m:MV} {kvs:List (Str×MV)} {K:KV} {b:Bool} (R:RdS own m kvs) (e:(!kvs.isEmpty)=b) (h:K (.bool b) vals own):kC2 c .NotEq m K (.dct []) vals own:=by
 intro v iv s vs ms Q a hQ
 refine Cx.AtI.el2 a λ g tk m1 cm ob cel frz S h1 h2 hv=>?_
 refine R.el S h2 λ a oa us q1 q2 q3 q4=>?_
 refine dct_el h1 λ d od us2 q5 q6 q7 q8=>?_
 cases q8
 have hu:=S.k.hu
 refine neEmptyD S.N q1 (cmem_frz q5) q2 q6 q3 q7 (by show c.un < cLine;lia) (r := !b) ?_ (by rw [Bool.not_not];exact hQ _ _ _ _ _ h ⟨g,tk,m1,cm,ob,cel,frz,S,.cons (.bool _) hv⟩)
 rw [←e];cases q4 <;> rfl
theorem kC2.eqEmp {m:MV} {kvs:List (Str×MV)} {K:KV} {b:Bool} (R:RdS own m kvs) (e:kvs.isEmpty=b) (h:K (.bool b) vals own):kC2 c .Eq m K (.dct []) vals own:=by
 intro v iv s vs ms Q a hQ
 refine Cx.AtI.el2 a λ g tk m1 cm ob cel frz S h1 h2 hv=>?_
 refine R.el S h2 λ a oa us q1 q2 q3 q4=>?_
 refine dct_el h1 λ d od us2 q5 q6 q7 q8=>?_
 cases q8
 have hu:=S.k.hu
 refine eqEmptyD S.N q1 (cmem_frz q5) q2 q6 q3 q7 (by show c.un < cLine;lia) (r:=b) ?_ (hQ _ _ _ _ _ h ⟨g,tk,m1,cm,ob,cel,frz,S,.cons (.bool _) hv⟩)
 rw [←e];cases q4 <;> rfl
noncomputable def kEq (vals1:Vs) (own1:Ow):KS:=λ fv vals own=>fv = .nx/\vals=vals1/\own=own1
theorem WS.mono {b:List Stmt} {K K':KS} (h:WS c b K vals own) (hm:∀fv vals own,K fv vals own->K' fv vals own):WS c b K' vals own :=
 λ s Q a hQ=>h s Q a λ fl fv s' v o hk ok=>hQ fl fv s' v o (hm _ _ _ hk) ok
theorem kNotIf.mid {b:Bool} {body rest:List Stmt} {K:KS} {vals1:Vs} {own1:Ow} (h1:b=false->WS c body (kEq vals1 own1) vals own) (h2:b=true->vals=vals1/\own=own1) (h:WS c rest K vals1 own1):kNot (kIf c body [] rest K) b vals own:=by
 induction b with
 | true=>obtain ⟨rfl,rfl⟩:=h2 rfl;exact kNot.t (kIf.f0 h)
 | false=>exact kNot.f (kIf.t ((h1 rfl).mono λ fv v o ⟨e1,e2,e3⟩=>by subst e1 e2 e3;exact kSeq.nx h))
end
noncomputable abbrev OwT (pre:Ow) (T:Addr) (tab:List (Int×Kvs)) (post:Ow):Ow:=pre++(T,.ict (tabM tab))::post
theorem OwT.up {pre post:Ow} {T:Addr} {tab tab':List (Int×Kvs)}:UpT (OwT pre T tab post) T tab tab' (OwT pre T tab' post):=by
 induction pre with
 | nil=>exact .head
 | cons p r ih=>exact .tail ih
noncomputable abbrev Mu (W:Wd) (hb:Bool) (f:Addr) (r:Nat) (args:List MV) (pre:Ow) (T:Addr) (tab tab':List (Int×Kvs)) (post:Ow) (mv:MV):Prop:=Md W hb f r args (OwT pre T tab post) (OwT pre T tab' post) mv
theorem kFin.mu {pre post:Ow} {T:Addr} {tab tab':List (Int×Kvs)} {mv:MV} {vals:Vs}:kFin (OwT pre T tab post) (λ m o=>m=mv/\o=OwT pre T tab' post) (.rt mv) vals (OwT pre T tab' post):=kFin.md
theorem SpPar.par {s:SpR} (h:SpPar s false):∃ab p,s.above=ab++[p]:=by
 ctx_has s
 generalize hb:false=b at h
 induction h with
 | root=>f_shut hb
 | no h zz=>exact ⟨_,_,h⟩
 | ref h zz=>exact ⟨_,_,h⟩
theorem settle_ok (W:Wd) {T R:Addr} {pre post:Ow} {tab root} (S:Shf (OwT pre T tab post) T R tab root) (hz:tab.length<=700) {n0:Int} {out:List SpR} (O:SpOk tab root n0 out) (hab:∀s∈out,∀a∈s.above,a∈out.map (λ zz=>zz.n)) (hd:∀s∈out,s.kvs.length<=20) {tabF} (hF:Stl (countsF out) tab out tabF) :
 Mu W false 535 16 [mShelf T R] pre T tab tabF post .none:=by
 revert S hz O hab hd;ctx_has W T R pre post tab root n0 out tabF
 have hlen:=O.len
 ktr_call [("shelf",false),("found",false),("counts",false),("spot",false),("changes",false)] enter
 k_all
 ktr_call gl_spots call
 refine kCall.rd (spots_ok W S O) ?_
 k_all
 ktr_call gl_counts_of call
 refine kCall.rd (counts_of_ok W _ O.nd hab O.len) ?_
 k_all
 refine WS.for ?_
 k_all
 refine kForX.lst (λ i vals o=>∃x1 x2 tabi,vals=[some (mShelf T R),some (.lst (out.map SpR.mv)),some (.ict (cntM (countsF out))),x1,x2]/\o=OwT pre T tabi post/\tabi.length<=tab.length+i/\Stl (countsF out) tabi (out.drop i) tabF) ⟨_,_,tab,rfl,rfl,Nat.le_refl _,hF⟩ ?_ ?_
 · intro c' i mv vals o hi hE0;refine EV3_2 vals o hE0 λ x1 x2 tabi htl hSt=>?_;clear hE0 vals o
   refine map_at hi λ sp hsp=>?_;clear hi mv
   revert htl hSt;ctx_has c' i x1 x2 tabi sp
   have hin:=mem_of_getElem? hsp
   have hi:=(List.getElem?_eq_some_iff.mp hsp).1
   rw [drop_of hsp] at hSt
   have hkl:=hd sp hin
   refine E3_4 hSt.inv λ bp cc bc hpar hcg hcn hSt'=>?_
   clear hSt
   ctx_has bp cc bc
   have hparE:=hpar
   have htl2:=stl1_len tabi sp bp cc bc
   have hsame:(bp && bc)=true->stl1 tabi sp bp cc bc=tabi:=by intro q;unfold stl1;rw [q];rfl
   have hlay:(bp && bc)=false->stl1 tabi sp bp cc bc=tPut tabi sp.n (turnedF sp.kvs (chg sp bp cc bc)):=by intro q;unfold stl1;rw [q];rfl
   obtain ⟨n,kvs,ab,inh,pg⟩:=sp
   ctx_has n kvs ab inh pg
   refine ⟨_,by ktn_open,?_⟩
   k_all
   refine WE.dict0 λ a=>?_
   ctx_has a
   k_all
   ktr_call gl_is_parent call
   refine kCall.rd (is_parent_b W T R _ hpar) ?_
   k_all
   refine kNotIf.mid (vals1:=[some (mShelf T R),some (.lst (out.map SpR.mv)),some (.ict (cntM (countsF out))),some (mSpot n kvs ab inh pg),some (.ptr a)]) (own1:=(a,.dct (if bp then [] else [(Str.ofString "Parent",parV ⟨n,kvs,ab,inh,pg⟩)]))::OwT pre T tabi post) ?_ (λ e=>⟨rfl,by rw [e];rfl⟩) ?_
   · rintro rfl
     refine E2_1 (hpar.par) λ ab' p hab'=>?_
     ctx_has ab' p
     have hab':ab=ab'++[p]:=hab'
     subst hab'
     k_all
     refine kC2.eqNT (b:=false) (by simp) ?_
     k_all
     rw [map_append]
     refine kSb2.lastT ?_
     k_all
     refine kSet.str .head (by decide) ?_
     k_all
     exact ⟨rfl,rfl,by simp [parV,mPut]⟩
   k_all
   ktr_call gl_is_right_count call
   refine kSb2.int .t (cntM_get hcg) ?_
   k_all
   refine kCall.rd (is_right_b W T R _ hcn) ?_
   k_all
   refine kNotIf.mid (vals1:=[some (mShelf T R),some (.lst (out.map SpR.mv)),some (.ict (cntM (countsF out))),some (mSpot n kvs ab inh pg),some (.ptr a)]) (own1:=(a,.dct (chg ⟨n,kvs,ab,inh,pg⟩ bp cc bc))::OwT pre T tabi post) ?_ (λ e=>⟨rfl,by rw [e];simp [chg]⟩) ?_
   · rintro rfl
     k_all
     refine kSb2.int .t (cntM_get hcg) ?_
     k_all
     refine kSet.str .head (by cases bp <;> simp) ?_
     k_all
     exact ⟨rfl,rfl,by cases bp <;> trivial⟩
   refine WS.frz .head .dct (by kpc_g) ?_
   k_all
   refine WE.frz (WE.dict0 λ zz=>kFrz.dct .head ?_)
   obtain ⟨b3,hb3⟩:∃b3,b3 = !(bp && bc):=⟨_,rfl⟩
   ctx_has b3
   refine kC2.neEmp (b:=b3) .t (by rw [hb3];cases bp <;> cases bc <;> rfl) ?_
   induction b3 with
   | false =>
    have hbb:(bp && bc)=true:=by cases bp <;> cases bc <;> first | rfl | f_shut hb3
    k_all
    rw [hsame hbb] at hSt' htl2
    exact IV3_2 rfl rfl (by lia) hSt'
   | true =>
    have hbb:(bp && bc)=false:=by cases bp <;> cases bc <;> first | rfl | f_shut hb3
    rw [hlay hbb] at hSt' htl2
    ctx_has a
    k_all
    ktr_call gl_lay call
    ktr_call gl_turned call
    refine kCall.rd (turned_ok W _ _ _ (Nat.le_trans (Nat.add_le_add (show kvs.length<=20 from hkl) (chg_len _ bp cc bc)) (by decide))) ?_
    k_all
    refine kCall.md (lay_ok W R (by lia) OwT.up) ?_
    k_all
    exact IV3_2 rfl rfl (by have:=tPut_len tabi n (turnedF kvs (chg ⟨n,kvs,ab,inh,pg⟩ bp cc bc));lia) hSt'
 · intro vals o hE4;refine EV3_2 vals o hE4 λ x1 x2 tabi htl hSt=>?_;clear hE4 vals o
   ctx_has x1 x2 tabi
   rw [length_map,List.drop_length] at hSt
   have e:tabF=tabi:=hSt.inv
   rw [e];clear hSt e
   k_all
   exact kFin.mu
inductive UpR (cnt:List (Int×Int)):List (Int×Kvs)->Int->List Int->List (Int×Kvs)->Prop
 | nil {tab g}:UpR cnt tab g [] tab
 | stop {tab g a r kvs ks c}:tGet tab a=some kvs->kvs.length<=20->mGetD kvs (Str.ofString "Kids")=mRefs ks->ks.length<=60->(∀k∈ks,∃kv,tGet tab k=some kv)->cGet cnt a=some c->1 < c ->
  UpR cnt tab g (a::r) (tPut tab a (turnedF kvs [(Str.ofString "Kids",mRefs (ks.filter λ k=>decide (k≠g)))]))
 | go {tab g a r kvs ks c tab'}:tGet tab a=some kvs->kvs.length<=20->mGetD kvs (Str.ofString "Kids")=mRefs ks->ks.length<=60->(∀k∈ks,∃kv,tGet tab k=some kv)->cGet cnt a=some c->¬ 1 < c ->
  UpR cnt (tPut tab a (turnedF kvs [(Str.ofString "Kids",mRefs (ks.filter λ k=>decide (k≠g)))])) a r tab'->UpR cnt tab g (a::r) tab'
noncomputable abbrev mRefsL (ns:List Int):List MV:=ns.map mRef
theorem leaves_turn {out:List SpR} {i:Nat} {sp:SpR} (h:out[i]? = some sp):((out.take (i+1)).filter (λ zz=>zz.pg)).map SpR.mv=((out.take i).filter (λ zz=>zz.pg)).map SpR.mv++(if sp.pg then [sp.mv] else []):=by
 rw [take_snoc' h,List.filter_append,map_append];cases q:sp.pg <;> simp [q]
theorem UpR.len {cnt:List (Int×Int)} {tab g l tab1} (h:UpR cnt tab g l tab1):tab1.length<=tab.length+l.length:=by
 induction h with
 | nil=>exact Nat.le_add_right _ _
 | stop=>exact Nat.le_trans (tPut_len _ _ _) (by simp)
 | go _ _ _ _ _ _ _ _ ih=>refine Nat.le_trans ih ?_;have:=tPut_len;rw [length_cons];exact Nat.le_trans (Nat.add_le_add_right (tPut_len _ _ _) _) (by simp+arith)
theorem remove_page_ok (W:Wd) {T R:Addr} {pre post:Ow} {tab root} (S:Shf (OwT pre T tab post) T R tab root) (hz:tab.length<=500) {n0:Int} {out:List SpR} (O:SpOk tab root n0 out) (hab:∀s∈out,∀a∈s.above,a∈out.map (λ zz=>zz.n)) (hd:∀s∈out,HdOk s.kvs/\s.inh.length<=20)
 {i:Nat} {sp:SpR} (hi:(out.filter (λ zz=>zz.pg))[i]? = some sp) (hal:sp.above.length<=60) {tab1} (hU:UpR (countsF out) tab sp.n sp.above.reverse tab1) {out2:List SpR} (O2:SpOk (tPut tab1 sp.n (turnedF (fieldsF sp.kvs sp.inh) [(Str.ofString "Parent",.none)])) root n0 out2)
 (hab2:∀s∈out2,∀a∈s.above,a∈out2.map (λ zz=>zz.n)) (hd2:∀s∈out2,s.kvs.length<=20) {tabF} (hF:Stl (countsF out2) (tPut tab1 sp.n (turnedF (fieldsF sp.kvs sp.inh) [(Str.ofString "Parent",.none)])) out2 tabF) :
 Mu W false 581 20 [mShelf T R,.int i] pre T tab tabF post (mRef sp.n):=by
 revert S hz O hab hd hi hal hU O2 hab2 hd2;ctx_has W T R pre post tab root n0 out i sp tab1 out2 tabF
 have hlen:=O.len
 have hln:=List.length_filter_le (λ zz=>zz.pg) out
 have hil:=(List.getElem?_eq_some_iff.mp hi).1
 obtain ⟨hdh,hdi⟩:=hd sp (mem_filter.mp (mem_of_getElem? hi)).1
 ktr_call [("shelf",true),("at",false),("found",false),("leaves",false),("spot",false),("counts",false),("gone",true),("node",false),("head",false),("kids",false)] enter
 k_all
 ktr_call gl_spots call
 refine kCall.rd (spots_ok W S O) ?_
 k_all
 refine kComp.lst (λ i l o=>l=(((out.take i).filter (λ zz=>zz.pg)).map SpR.mv)/\o=OwT pre T tab post) .nil ⟨rfl,rfl⟩ ?_ ?_ (by simp;exact Nat.le_trans (by assumption) (by decide))
 · intro c' j mv l o hj hQ1;refine EV0_0 hQ1 ?_;clear hQ1 l o
   refine map_at hj λ sq hsp=>?_;clear hj mv
   ctx_has c' j sq
   have hlt:=leaves_turn hsp
   show WC c' _ _ _ _ _ [some (mSpot sq.n sq.kvs sq.above sq.inh sq.pg)] _
   cases hpg:sq.pg
   · k_all
     exact ⟨by rw [hlt];simp [hpg],rfl⟩
   · k_all
     exact ⟨by rw [hlt];simp [hpg,SpR.mv],rfl⟩
 intro l o9 hQ2;refine EV0_0 hQ2 ?_;clear hQ2 l o9;intro a
 ctx_has a
 rw [length_map,take_length]
 refine ⟨_,by ktn_open,?_⟩
 refine WS.frz .head .lst (by kpc_g) ?_
 have hiE:(((out.filter (λ zz=>zz.pg)).map SpR.mv))[i]? = some sp.mv:=by rw [getElem?_map,hi];rfl
 obtain ⟨n,kvs,ab,inh,pg⟩:=sp
 ctx_has n kvs ab inh pg
 k_all
 refine kCh2.t (by exact Int.natCast_nonneg _) ?_
 refine WE.bi1 ?_ cls_len (by kernel_rfl) (by decide+kernel)
 k_all
 refine kF1.lenL .t (by rw [length_map];lia) ?_
 refine kC2.lt (d:=true) (decide_eq_true (by rw [length_map];simp+arith [*])) ?_
 k_all
 refine kSb2.itL .t rfl hiE (by rw [length_map];lia) ?_
 k_all
 ktr_call gl_counts_of call
 refine kCall.rd (counts_of_ok W _ O.nd hab O.len) ?_
 k_all
 refine WS.forV ?_ cls_rev (by kernel_rfl)
 k_all
 refine kRev.mid (λ vals o1=>∃x1 x2 x3 x4,vals=[some (mShelf T R),some (.int i),some (.lst (out.map SpR.mv)),some (.lst ((out.filter (λ zz=>zz.pg)).map SpR.mv)),some (mSpot n kvs ab inh pg),some (.ict (cntM (countsF out))),x1,x2,x3,x4]/\o1=OwT pre T tab1 post) ?_ ?_
 · refine kRev.tup (λ j vals o1=>∃g x2 x3 x4 tabi,vals=[some (mShelf T R),some (.int i),some (.lst (out.map SpR.mv)),some (.lst ((out.filter (λ zz=>zz.pg)).map SpR.mv)),some (mSpot n kvs ab inh pg),some (.ict (cntM (countsF out))),some (mRef g),x2,x3,x4]/\o1=OwT pre T tabi post/\tabi.length<=tab.length+j/\UpR (countsF out) tabi g (ab.reverse.drop j) tab1) ⟨_,_,_,_,tab,rfl,rfl,Nat.le_refl _,hU⟩ ?_ ?_ (by rw [length_map];exact Nat.le_trans hal (by decide))
   · intro c' j mv vals o1 hj hE2;refine EV5_2 vals o1 hE2 λ g x2 x3 x4 tabi htl hUi=>?_;clear hE2 vals o1
     revert hj;ctx_has c' j mv g x2 x3 x4 tabi
     rw [←List.map_reverse,getElem?_map] at hj
     refine E1_2 (Option.map_eq_some_iff.mp hj) λ an han e3_2=>?_;subst e3_2
     revert htl hUi;ctx_has g x2 x3 x4 tabi an
     have hjl:j < ab.length:=by have:=(List.getElem?_eq_some_iff.mp han).1;simp_all
     rw [drop_of han] at hUi
     have Si:=S.up (OwT.up (tab':=tabi))
     have hal':ab.length<=60:=hal
     obtain ⟨kv,ks,cc,e1,e2,e3,e4,e6,e6',hcase⟩:∃kv ks cc,tGet tabi an=some kv/\kv.length<=20/\mGetD kv (Str.ofString "Kids")=mRefs ks/\ks.length<=60/\(∀k∈ks,∃kv,tGet tabi k=some kv)/\cGet (countsF out) an=some cc /\
      ((1 < cc/\tab1=tPut tabi an (turnedF kv [(Str.ofString "Kids",mRefs (ks.filter λ k=>decide (k≠g)))]))\/(¬ 1 < cc/\UpR (countsF out) (tPut tabi an (turnedF kv [(Str.ofString "Kids",mRefs (ks.filter λ k=>decide (k≠g)))])) an (ab.reverse.drop (j+1)) tab1)):=by
      cases hUi with
      | stop a b c d e f g=>exact ⟨_,_,_,a,b,c,d,e,f,.inl ⟨g,rfl⟩⟩
      | go a b c d e f g h=>exact ⟨_,_,_,a,b,c,d,e,f,.inr ⟨g,h⟩⟩
     ctx_has kv ks cc
     refine ⟨_,by ktn_open,?_⟩
     k_all
     refine kCall.rd (fetch_ref W Si e1) ?_
     k_all
     ktr_call gl_kids_of call
     refine kCall.rd (kids_of_ok W T R _ e3) ?_
     refine kComp.lst (λ i l o=>l=mRefsL ((ks.take i).filter λ k=>decide (k≠g))/\o=OwT pre T tabi post) (.cons .head (by k_mem) (.cons (y:=Str.ofString "gone") (by ktr_rel) (by k_mem) .nil)) ⟨rfl,rfl⟩ ?_ ?_ (by rw [length_map];exact Nat.le_trans (by assumption) (by decide))
     · intro c2 q mv l o2 hq hQ3;refine EV0_0 hQ3 ?_;clear hQ3 l o2
       refine map_at hq λ k hk=>?_;clear hq mv
       obtain ⟨kv2,hkv2⟩:=e6 k (mem_of_getElem? hk)
       revert hk;ctx_has c2 q k kv2
       have hst:=take_snoc' hk
       k_all
       ktr_call gl_home_of call
       refine kCall.rd (home_of_ok W Si hkv2) ?_
       k_all
       refine kCall.rd (pair_ok W k _) ?_
       k_all
       refine kCall.rd (pair_ok W g _) ?_
       by_cases hkg:k=g
       · refine kC2.neP (b:=false) (by simp [hkg]) ?_
         k_all
         exact ⟨by rw [hst];simp [hkg],rfl⟩
       · refine kC2.neP (b:=true) (by simp [hkg]) ?_
         k_all
         exact ⟨by rw [hst];simp [hkg],rfl⟩
     · intro l o2 hQ4;refine EV0_0 hQ4 ?_;clear hQ4 l o2;intro a2
       ctx_has a2
       rw [length_map,take_length]
       refine ⟨_,by ktn_open,?_⟩
       refine WS.frz .head .lst (by kpc_g) ?_
       have hl2:=tPut_len tabi an (turnedF kv [(Str.ofString "Kids",mRefs (ks.filter λ k=>decide (k≠g)))])
       k_all
       ktr_call gl_lay call
       ktr_call gl_turned call
       refine WE.frz (WE.dct1 λ d=>?_)
       ctx_has d
       k_all
       refine kD1.mk .head (kFrz.dct .head ?_)
       k_all
       refine kCall.rd (turned_ok W _ _ _ (by simp only [length_append,length_cons,length_nil];exact Nat.lt_of_le_of_lt (by assumption) (by decide))) ?_
       k_all
       refine kCall.md (lay_ok W R (by lia) OwT.up) ?_
       k_all
       refine kSb2.int .t (cntM_get e6') ?_
       k_all
       rcases hcase with ⟨h1,h2⟩ | ⟨h1,h2⟩
       · refine kC2.gt (decide_eq_true h1) ?_
         k_all
         exact IV4_0 rfl (by rw [h2];rfl)
       · refine kC2.gt (decide_eq_false h1) ?_
         k_all
         exact IV5_2 rfl rfl (Nat.le_trans (tPut_len _ _ _) (by exact Nat.lt_succ_of_le (by assumption))) h2
   · intro vals o1 hE5;refine EV5_2 vals o1 hE5 λ g x2 x3 x4 tabi htl hUi=>?_;clear hE5 vals o1
     ctx_has g x2 x3 x4 tabi
     rw [length_map,List.drop_eq_nil_of_le (by simp)] at hUi
     cases hUi
     exact IV4_0 rfl rfl
 · intro vals o1 hE6;refine EV4_0 vals o1 hE6 λ x1 x2 x3 x4=>?_;clear hE6 vals o1
   ctx_has x1 x2 x3 x4
   have S1:=S.up (OwT.up (tab':=tab1))
   have hl1:=hU.len
   have hl2:=tPut_len tab1 n (turnedF (fieldsF kvs inh) [(Str.ofString "Parent",.none)])
   have hal':ab.length<=60:=hal
   rw [length_reverse] at hl1
   have hl1':tab1.length<=tab.length+ab.length:=hl1
   have hfl:(fieldsF kvs inh).length<=24:=by have:=foldl_field_len kvs inh INHS kvs;have q:INHS.length=4:=rfl;have q2:kvs.length<=20:=hdh.len;unfold fieldsF;lia
   k_all
   ktr_call gl_lay call
   ktr_call gl_turned call
   ktr_call gl_fields_of call
   refine kCall.rd (fields_of_ok W T R _ _ _ hdh hdi) ?_
   k_all
   refine WE.frz (WE.dct1 λ d=>?_)
   ctx_has d
   k_all
   refine kD1.mk .head (kFrz.dct .head ?_)
   k_all
   refine kCall.rd (turned_ok W _ _ _ (by simp only [length_append,length_cons,length_nil];exact Nat.lt_of_le_of_lt (by assumption) (by decide))) ?_
   k_all
   refine kCall.md (lay_ok W R (by lia) OwT.up) ?_
   k_all
   ktr_call gl_settle call
   refine kCall.md (settle_ok W (S1.up OwT.up) (Nat.le_trans (tPut_len _ _ _) (by lia)) O2 hab2 hd2 hF) ?_
   k_all
   exact kFin.mu
theorem keysTo_sorted (k:Nat):(keysTo k).Pairwise (· <= ·):=keysTo_sortedP k
theorem numbers_own (W:Wd) {T:Addr} (R:Addr) {own:Ow} {tab:List (Int×Kvs)} (hT:(T,OV.ict (tabM tab))∈own) {k:Nat} (hz:k < 60) (hk:tab.map (λ zz=>zz.1)=keysTo k):Tl W true 353 4 [mShelf T R] own λ m o=>∃a,m = .ptr a/\o=(a,.lst ((keysTo k).map .int))::own:=by
 have hl:=congrArg List.length hk
 simp only [length_map,keysTo,List.length_range] at hl
 ktr_call [("self",false)] enter
 k_all
 refine WE.bi1 ?_ cls_sorted (by kernel_rfl) (by decide+kernel)
 k_all
 refine kF1.sortI (.o hT) (by rw [length_map];lia) (by rw [tabM_keys,hk];exact keysTo_sorted k) λ a=>?_
 rw [tabM_keys,hk]
 exact kFin.of (own₀:=[]) (vals:=[]) ⟨a,rfl,rfl⟩
theorem numbers_ok (W:Wd) {T:Addr} (R:Addr) {own:Ow} {tab:List (Int×Kvs)} (hT:(T,OV.ict (tabM tab))∈own) {k:Nat} (hz:k < 60) (hk:tab.map (λ zz=>zz.1)=keysTo k):Rd W true 353 4 [mShelf T R] own (.lst ((keysTo k).map .int)):=(numbers_own W R hT hz hk).frz .lst
noncomputable def KindV (mv:MV) (k:Str):Prop:=∀ (W:Wd) (own:Ow),Rd W true 265 2 [mv] own (.str k)
theorem kind_none:KindV .none (Str.ofString "null"):=by
 intro W own
 ktr_call [("value",false)] enter
 k_all
 refine kC2.isY ?_
 k_all
theorem kind_int (i:Int):KindV (.int i) (Str.ofString "int"):=by
 intro W own
 ktr_call [("value",false)] enter
 k_all
 refine kC2.isN (by intro e;cases e) ?_
 k_all
theorem kind_name (s:Str):KindV (mName s) (Str.ofString "name"):=by
 intro W own
 ktr_call [("value",false)] enter
 k_all
 refine kC2.isN (by intro e;cases e) ?_
 k_all
theorem kind_lst (l:List MV):KindV (.lst l) (Str.ofString "array"):=by
 intro W own
 ktr_call [("value",false)] enter
 k_all
 refine kC2.isN (by intro e;f_shut e) ?_
 k_all
theorem kind_dct (l:Kvs):KindV (.dct l) (Str.ofString "dict"):=by
 intro W own
 ktr_call [("value",false)] enter
 k_all
 refine kC2.isN (by intro e;f_shut e) ?_
 k_all
theorem kind_ref (n:Int):KindV (mRef n) (Str.ofString "ref"):=by
 intro W own
 ktr_call [("value",false)] enter
 k_all
 refine kC2.isN (by intro e;cases e) ?_
 k_all
theorem plain_ok (W:Wd) (own:Ow) {mv:MV} (h:PlainV mv):∃k,KindV mv k/\k≠Str.ofString "array"/\k≠Str.ofString "dict"/\k≠Str.ofString "stream"/\Rd W true 272 2 [.str k,mv] own (toldP mv):=by
 induction h with
 | none =>
  refine ⟨_,kind_none,by decide,by decide,by decide,?_⟩
  ktr_call [("kind",false),("value",false)] enter
  k_all
  exact kFin.end
 | int i =>
  refine ⟨_,kind_int i,by decide,by decide,by decide,?_⟩
  ktr_call [("kind",false),("value",false)] enter
  k_all
  exact kFin.end
 | name s =>
  refine ⟨_,kind_name s,by decide,by decide,by decide,?_⟩
  ktr_call [("kind",false),("value",false)] enter
  k_all
  exact kFin.end
 | ref n =>
  refine ⟨_,kind_ref n,by decide,by decide,by decide,?_⟩
  ktr_call [("kind",false),("value",false)] enter
  k_all
  exact kFin.end
theorem sne {a b:Str} (h:a≠b):(a == b)=false:=by simpa using h
theorem told_p_ok (W:Wd) (own:Ow) {mv:MV} (h:PlainV mv):Rd W true 277 4 [mv] own (toldP mv):=by
 refine E1_5 (plain_ok W own h) λ k h1 h2 h3 h4 h5=>?_
 ktr_call [("value",true),("kind",false)] enter
 k_all
 ktr_call gl_kind_of call
 refine kCall.rd (h1 W own) ?_
 k_all
 refine kC2.eqS (d:=false) (sne h2) ?_
 k_all
 refine kC2.eqS (d:=false) (sne h3) ?_
 k_all
 refine kC2.eqS (d:=false) (sne h4) ?_
 k_all
 ktr_call gl_told_plain call
 refine kCall.rd h5 ?_
 k_all
theorem told_l_ok (W:Wd) (own:Ow) {l:List MV} (hp:∀v∈l,PlainV v) (hl:l.length<=60):Rd W true 277 8 [.lst l] own (toldV (.lst l)):=by
 ctx_has W own l
 ktr_call [("value",true),("kind",false)] enter
 k_all
 ktr_call gl_kind_of call
 refine kCall.rd (kind_lst l W own) ?_
 k_all
 refine WE.ty1 ?_ cls_tuple (by kernel_rfl) (by decide+kernel)
 k_all
 refine kComp.lst (λ i ys o=>ys=(l.take i).map toldP/\o=own) .nil ⟨rfl,rfl⟩ ?_ ?_ (by exact Nat.le_trans (by assumption) (by decide))
 · intro c' i mv ys o hi hQ1;refine EV0_0 hQ1 ?_;clear hQ1 ys o
   k_all
   ktr_call gl_told_objects call
   refine kCall.rd (told_p_ok W own (all_plain hp hi)) ?_
   k_all
   exact ⟨by rw [take_snoc' hi];simp,rfl⟩
 · intro ys o hQ2;refine EV0_0 hQ2 ?_;clear hQ2 ys o;intro a
   rw [take_length]
   refine kF1.tupL (.o (.head _)) (by rw [length_map];exact Nat.le_trans (by assumption) (by decide)) ?_
   refine kB2.addTl (List.cons_ne_nil _ _) (by simp;lia) ?_
   k_all
   exact kFin.drop kFin.end
theorem told_v_ok (W:Wd) (own:Ow) {mv:MV} (h:mv = .none\/FlatV mv):Rd W true 277 8 [mv] own (toldV mv):=by
 rcases h with rfl | h
 · exact (told_p_ok W own .none).up (by decide)
 induction h with
 | int i=>exact (told_p_ok W own (.int i)).up (by decide)
 | name s=>exact (told_p_ok W own (.name s)).up (by decide)
 | ref n=>exact (told_p_ok W own (.ref n)).up (by decide)
 | lst h1 h2=>exact told_l_ok W own h1 h2
noncomputable def toldD (kvs:Kvs):MV:=.tup (.str (Str.ofString "dict")::(sortS (kvs.map (λ zz=>zz.1))).map λ k=>.tup [.str k,toldV (mGetD kvs k)])
theorem kind_own (W:Wd) {own:Ow} {a:Addr} {kvs:Kvs} (hm:(a,OV.dct kvs)∈own):Rd W true 265 2 [.ptr a] own (.str (Str.ofString "dict")):=by
 ktr_call [("value",false)] enter
 k_all
 refine kC2.isN (by intro e;f_shut e) ?_
 k_all
 refine kIsi.dct (b:=false) hm (by kernel_rfl) ?_
 k_all
 refine kIsi.dct (b:=false) hm (by kernel_rfl) ?_
 k_all
 refine kIsi.dct (b:=false) hm (by kernel_rfl) ?_
 k_all
 refine kIsi.dct (b:=false) hm (by kernel_rfl) ?_
 k_all
 refine kIsi.dct (b:=false) hm (by kernel_rfl) ?_
 k_all
 refine kIsi.dct (b:=false) hm (by kernel_rfl) ?_
 k_all
 refine kIsi.dct (b:=true) hm (by kernel_rfl) ?_
 k_all
theorem kind_rd (W:Wd) {own:Ow} {m:MV} {kvs:Kvs} (R:RdS own m kvs):Rd W true 265 2 [m] own (.str (Str.ofString "dict")):=by
 cases R with
 | t=>exact kind_dct kvs W own
 | o hm=>exact kind_own W hm
theorem told_dr_ok (W:Wd) {own:Ow} {m:MV} {kvs:Kvs} (R:RdS own m kvs) (hp:∀p∈kvs,FlatV p.2) (hl:kvs.length<=20):Rd W true 277 12 [m] own (toldD kvs):=by
 ctx_has W own m kvs
 ktr_call [("value",true),("kind",false)] enter
 k_all
 ktr_call gl_kind_of call
 refine kCall.rd (kind_rd W R) ?_
 k_all
 refine WE.ty1 ?_ cls_tuple (by kernel_rfl) (by decide+kernel)
 k_all
 refine WE.frz (WE.bi1 ?_ cls_sorted (by kernel_rfl) (by decide+kernel))
 k_all
 refine kF1.sortS R (by exact Nat.lt_of_le_of_lt (by assumption) (by decide)) λ a hP=>kFrz.lst .head ?_
 refine kComp.lst (λ i ys o=>ys=(((sortS (kvs.map (λ zz=>zz.1))).take i).map λ k=>.tup [.str k,toldV (mGetD kvs k)])/\o=own) (.cons .head (by k_mem) .nil) ⟨rfl,rfl⟩ ?_ ?_ (by have:=hP.length_eq;rw [length_map] at this ⊢;lia)
 · intro c' i mv ys o hi hQ1;refine EV0_0 hQ1 ?_;clear hQ1 ys o
   refine map_at hi λ x hxk=>?_;clear hi mv
   refine E1_2 (mGet_of_key (hP.mem_iff.mp (mem_of_getElem? hxk))) λ v hmg hmem=>?_
   have hfl:FlatV v:=hp _ hmem
   have hmd:mGetD kvs x=v:=by rw [mGetD,hmg];rfl
   k_all
   refine kSb2.str R hmg ?_
   k_all
   refine kC2.isnotN hfl.ne ?_
   k_all
   ktr_call gl_told_objects call
   refine kSb2.str R hmg ?_
   k_all
   refine kCall.rd (told_v_ok W own (.inr hfl)) ?_
   k_all
   exact ⟨by rw [take_snoc' hxk];simp [hmd],rfl⟩
 · intro ys o hQ2;refine EV0_0 hQ2 ?_;clear hQ2 ys o;intro a1
   have hln:=hP.length_eq
   rw [length_map] at hln
   rw [length_map,take_length]
   refine kF1.tupL (.o (.head _)) (by rw [length_map];lia) ?_
   refine kB2.addTl (List.cons_ne_nil _ _) (by simp;lia) ?_
   k_all
   exact kFin.drop kFin.end
theorem copied_p_ok (W:Wd) (own:Ow) {mv:MV} (h:PlainV mv):Rd W false 282 4 [mv] own mv:=by
 refine E1_5 (plain_ok W own h) λ k h1 h2 h3 h4 zz=>?_
 ktr_call [("value",true),("kind",false)] enter
 k_all
 ktr_call gl_kind_of call
 refine kCall.rd (h1 W own) ?_
 k_all
 refine kC2.eqS (d:=false) (sne h2) ?_
 k_all
 refine kC2.eqS (d:=false) (sne h3) ?_
 k_all
 refine kC2.eqS (d:=false) (sne h4) ?_
 k_all
theorem copied_l_ok (W:Wd) (own:Ow) {l:List MV} (hp:∀v∈l,PlainV v) (hl:l.length<=60):Rd W false 282 8 [.lst l] own (.lst l):=by
 ktr_call [("value",true),("kind",false)] enter
 k_all
 ktr_call gl_kind_of call
 refine kCall.rd (kind_lst l W own) ?_
 k_all
 refine kComp.lst (λ i ys o=>ys=l.take i/\o=own) .nil ⟨rfl,rfl⟩ ?_ ?_ (by exact Nat.le_trans (by assumption) (by decide))
 · intro c' i mv ys o hi hQ1;refine EV0_0 hQ1 ?_;clear hQ1 ys o
   k_all
   ktr_call gl_copied call
   refine kCall.rd (copied_p_ok W own (all_plain hp hi)) ?_
   k_all
   exact ⟨by rw [take_snoc' hi],rfl⟩
 · intro ys o hQ2;refine EV0_0 hQ2 ?_;clear hQ2 ys o;intro a
   rw [take_length]
   exact kFin.lst (vals:=[]) kFin.end
theorem copied_v_ok (W:Wd) (own:Ow) {mv:MV} (h:FlatV mv):Rd W false 282 8 [mv] own mv:=by
 induction h with
 | int i=>exact (copied_p_ok W own (.int i)).up (by decide)
 | name s=>exact (copied_p_ok W own (.name s)).up (by decide)
 | ref n=>exact (copied_p_ok W own (.ref n)).up (by decide)
 | lst h1 h2=>exact copied_l_ok W own h1 h2
theorem copied_d_ok (W:Wd) (own:Ow) {kvs:Kvs} (hp:∀p∈kvs,FlatV p.2) (hl:kvs.length<=20) (hnd:(kvs.map (λ zz=>zz.1)).Nodup):Rd W false 282 12 [.dct kvs] own (.dct kvs):=by
 ctx_has W own kvs
 ktr_call [("value",true),("kind",false)] enter
 k_all
 ktr_call gl_kind_of call
 refine kCall.rd (kind_dct kvs W own) ?_
 k_all
 refine WE.ty1 ?_ cls_dict (by kernel_rfl) (by decide+kernel)
 k_all
 refine kComp.keys (λ i ys o=>ys=(kvs.take i).map (λ p=>MV.tup [.str p.1,p.2])/\o=own) (.cons .head (by k_mem) .nil) ⟨rfl,rfl⟩ ?_ ?_ (by exact Nat.le_trans (by assumption) (by decide))
 · intro c' i y v ys o hi hg hQ3;refine EV0_0 hQ3 ?_;clear hQ3 ys o
   have hfl:=hp _ (mem_of_getElem? hi)
   k_all
   ktr_call gl_copied call
   refine kSb2.str .t hg ?_
   k_all
   refine kCall.rd (copied_v_ok W own hfl) ?_
   k_all
   exact ⟨by rw [take_snoc' hi];simp,rfl⟩
 · intro ys o hQ4;refine EV0_0 hQ4 ?_;clear hQ4 ys o;intro a
   rw [take_length]
   refine kF1.dictP (.o (.head _)) (by exact Nat.le_trans (by assumption) (by decide)) hnd λ d=>?_
   exact kFin.dct (vals:=[]) (kFin.drop kFin.end)
theorem kid_index_ok (W:Wd) {T R:Addr} {own:Ow} {tab root} (S:Shf own T R tab root) {n:Int} {kvs:Kvs} {ab:List Int} {inh:Kvs} {pg:Bool} {ks:List Int} (hks:mGetD kvs (Str.ofString "Kids")=mRefs ks)
 (hkt:∀k∈ks,∃kv,tGet tab k=some kv) (hkl:ks.length<=60) (hnd:ks.Nodup) {rn:Int} {j:Nat} (hj:ks[j]? = some rn):Rd W false 562 10 [mShelf T R,mSpot n kvs ab inh pg,mRef rn] own (.int (j:Nat)):=by
 ktr_call [("shelf",true),("node",false),("reference",false)] enter
 k_all
 refine WE.methB (x:=Str.ofString "index") (id:="list.index") ?_
 k_all
 ktr_call gl_kids_of call
 refine kCall.rd (kids_of_ok W T R own hks) ?_
 refine kComp.lst (λ i ys o=>ys=(ks.take i).map (λ k=>MV.tup [.int k,.int 0])/\o=own) (.cons .head (by k_mem) .nil) ⟨rfl,rfl⟩ ?_ ?_ (by rw [length_map];exact Nat.le_trans (by assumption) (by decide))
 · intro c' i mv ys o hi hQ1;refine EV0_0 hQ1 ?_;clear hQ1 ys o
   refine map_at hi λ k hk=>?_;clear hi mv
   obtain ⟨kv,hkv⟩:=hkt k (mem_of_getElem? hk)
   k_all
   ktr_call gl_home_of call
   refine kCall.rd (home_of_ok W S hkv) ?_
   k_all
   refine kCall.rd (pair_ok W k own) ?_
   k_all
   exact ⟨by rw [take_snoc' hk];simp,rfl⟩
 · intro ys o hQ2;refine EV0_0 hQ2 ?_;clear hQ2 ys o;intro a
   rw [length_map,take_length]
   refine kMb.idx (.o (.head _)) ?_
   k_all
   refine kCall.rd (pair_ok W rn _) ?_
   k_all
   refine ON.idx (.o (.head _)) hj hnd (by exact Nat.le_trans (by assumption) (by decide)) ?_
   k_all
   exact kFin.drop kFin.end
structure Flat (n0:Int) (r0:SpR) (lv:List SpR) (ks:List Int):Prop where
 n:r0.n=n0
 pg:r0.pg=false
 kids:mGetD r0.kvs (Str.ofString "Kids")=mRefs ks
 ks:ks=lv.map (λ zz=>zz.n)
 lpg:∀s∈lv,s.pg=true
 lab:∀s∈lv,s.above=[n0]
theorem Flat.fil {n0 r0 lv ks} (h:Flat n0 r0 lv ks):(r0::lv).filter (λ zz=>zz.pg)=lv:=by
 rw [List.filter_cons_of_neg (by rw [h.pg];decide),List.filter_eq_self.mpr h.lpg]
theorem place_of_ok (W:Wd) {T R:Addr} {own:Ow} {tab root} (S:Shf own T R tab root) {n0:Int} {r0:SpR} {lv:List SpR} {ks:List Int} (O:SpOk tab root n0 (r0::lv)) (hf:Flat n0 r0 lv ks) (hkt:∀k∈ks,∃kv,tGet tab k=some kv) {i0:Nat} (hi0:i0<=lv.length) :
 Rd W false 557 16 [mShelf T R,.int i0] own (.tup [r0.mv,.int i0]):=by
 revert S O hf hkt;ctx_has W T R own tab root n0 r0 lv ks i0
 have hlen:=O.len
 have hnd:=O.nd
 rw [length_cons] at hlen
 rw [map_cons,nodup_cons] at hnd
 have hlv:lv.length<=59:=by lia
 ktr_call [("shelf",false),("at",false),("found",false),("leaves",false),("beside",true),("node",false)] enter
 k_all
 ktr_call gl_spots call
 refine kCall.rd (spots_ok W S O) ?_
 k_all
 refine kComp.lst (λ i l o=>l=((((r0::lv).take i).filter (λ zz=>zz.pg)).map SpR.mv)/\o=own) .nil ⟨rfl,rfl⟩ ?_ ?_ (by simp;exact Nat.le_trans (by assumption) (by decide))
 · intro c' i mv l o hi hQ1;ctx_has c' i mv l o;refine EV0_0 hQ1 ?_;clear hQ1 l o
   refine map_at hi λ sp hsp=>?_;ctx_has sp;clear hi mv
   have hlt:=leaves_turn hsp
   show WC c' _ _ _ _ _ [some (mSpot sp.n sp.kvs sp.above sp.inh sp.pg)] own
   cases hpg:sp.pg
   · k_all
     exact ⟨by rw [hlt];simp [hpg],rfl⟩
   · k_all
     exact ⟨by rw [hlt];simp [hpg,SpR.mv],rfl⟩
 intro l o hQ2;ctx_has l o;refine EV0_0 hQ2 ?_;clear hQ2 l o;intro a
 ctx_has a
 rw [length_map,take_length,hf.fil]
 refine ⟨_,by ktn_open,?_⟩
 refine WS.frz .head .lst (by kpc_g) ?_
 k_all
 refine kCh2.t (by exact Int.natCast_nonneg _) ?_
 refine WE.bi1 ?_ cls_len (by kernel_rfl) (by decide+kernel)
 k_all
 refine kF1.lenL .t (by rw [length_map];exact Nat.le_trans (by assumption) (by decide)) ?_
 refine kC2.le (d:=true) (decide_eq_true (by rw [length_map];simp+arith [*])) ?_
 k_all
 refine WE.frz (WE.lst (WA.nil (kLst.mk λ zz=>kFrz.lst .head ?_)))
 obtain ⟨rn,rkvs,rab,rinh,rpg⟩:=r0
 ctx_has rn rkvs rab rinh rpg
 obtain rfl:rn=n0:=hf.n
 obtain rfl:rpg=false:=hf.pg
 have hks:=hf.kids
 cases lv with
 | nil =>
  obtain rfl:i0=0:=by simpa using hi0
  refine kC2.eqNilL (b:=true) .t rfl ?_
  k_all
  refine kSb2.itL (i:=0) .t rfl rfl (by simp) ?_
  k_all
  refine WE.bi1 ?_ cls_len (by kernel_rfl) (by decide+kernel)
  ktr_call gl_kids_of call
  refine kSb2.itL (i:=0) .t rfl rfl (by simp) ?_
  k_all
  refine kCall.rd (kids_of_ok W T R own hks) ?_
  refine kF1.lenL .t (by rw [hf.ks];trivial) ?_
  k_all
  rw [hf.ks]
  exact kFin.end
 | cons s1 lv =>
  ctx_has s1 lv
  obtain ⟨j,hjl,hjm,hje⟩:∃j:Nat,j < (s1::lv).length/\(if (((s1::lv).map SpR.mv).length:Int) - 1 < (i0:Int) then (((s1::lv).map SpR.mv).length:Int) - 1 else (i0:Int))=(j:Int)/\(j:Int)+(if i0=(s1::lv).length then 1 else 0)=(i0:Int):=by
   have hi0':i0<=(s1::lv).length:=hi0
   simp only [length_map,length_cons] at hi0' ⊢
   by_cases q:i0=lv.length+1
   · exact ⟨lv.length,by exact Nat.lt_succ_self _,by rw [if_pos (by simp+arith [*])];simp+arith,by rw [if_pos q];simp+arith [*]⟩
   · exact ⟨i0,by lia,by rw [if_neg (by lia)],by rw [if_neg q];rfl⟩
  ctx_has j
  obtain ⟨sb,hsb⟩:∃sb,(s1::lv)[j]? = some sb:=⟨_,List.getElem?_eq_getElem hjl⟩
  ctx_has sb
  have hsin:=mem_of_getElem? hsb
  have hsab:=hf.lab sb hsin
  have hsmv:((s1::lv).map SpR.mv)[j]? = some sb.mv:=by rw [getElem?_map,hsb];rfl
  refine kC2.eqNilL (b:=false) .t rfl ?_
  k_all
  refine WE.bi2 ?_ cls_min (by kernel_rfl) (by decide+kernel)
  k_all
  refine WE.bi1 ?_ cls_len (by kernel_rfl) (by decide+kernel)
  k_all
  refine kF1.lenL .t (by rw [length_map];exact Nat.le_trans hlv (by decide)) ?_
  k_all
  refine kF2b.min ?_
  refine kSb2.itL .t hjm hsmv (by rw [length_map];exact Nat.le_trans hlv (by decide)) ?_
  obtain ⟨bn,bkvs,bab,binh,bpg⟩:=sb
  ctx_has bn bkvs bab binh bpg
  obtain rfl:bab=[rn]:=hsab
  k_all
  refine kComp.lst (λ i l o2=>l=(((⟨rn,rkvs,rab,rinh,false⟩::s1::lv).take i).filter (λ s=>decide (s.n=rn))).map SpR.mv/\o2=own) (.cons (y:=Str.ofString "beside") (by ktr_rel) (by k_mem) .nil) ⟨rfl,rfl⟩ ?_ ?_ (by rw [length_map];exact Nat.le_trans (Nat.succ_le_succ hlv) (by decide))
  · intro c' i mv l o2 hi hQ3;ctx_has c' i mv l o2;refine EV0_0 hQ3 ?_;clear hQ3 l o2
    refine map_at hi λ sp hsp=>?_;ctx_has sp;clear hi mv
    have hst:=take_snoc' hsp
    show WC c' _ _ _ _ _ [some (mSpot sp.n sp.kvs sp.above sp.inh sp.pg),_] own
    k_all
    refine kCall.rd (pair_ok W sp.n own) ?_
    k_all
    refine kSb2.lastT (l:=[]) ?_
    k_all
    refine kCall.rd (pair_ok W rn own) ?_
    by_cases q:sp.n=rn
    · refine kC2.eqP (b:=true) (decide_eq_true q) ?_
      k_all
      exact ⟨by rw [hst];simp [q,SpR.mv],rfl⟩
    · refine kC2.eqP (b:=false) (decide_eq_false q) ?_
      k_all
      exact ⟨by rw [hst];simp [q],rfl⟩
  · intro l o2 hQ4;ctx_has l o2;refine EV0_0 hQ4 ?_;clear hQ4 l o2;intro a2
    ctx_has a2
    have hone:((⟨rn,rkvs,rab,rinh,false⟩::s1::lv:List SpR).filter (λ s=>decide (s.n=rn)))=[⟨rn,rkvs,rab,rinh,false⟩]:=by
     rw [List.filter_cons_of_pos (by simp),List.filter_eq_nil_iff.mpr λ x hx=>by
      intro e
      exact hnd.1 (mem_map.mpr ⟨x,hx,by simpa using e⟩)]
    rw [length_map,take_length,hone]
    k_all
    refine kSb2.itL (i:=0) (.o (.head _)) rfl rfl (by simp) ?_
    k_all
    ktr_call gl_kid_index call
    have hkj:ks[j]? = some bn:=by rw [hf.ks,getElem?_map,hsb];rfl
    have hkl:ks.length<=60:=by rw [hf.ks,length_map];exact Nat.le_trans hlv (by decide)
    have hkn:ks.Nodup:=by rw [hf.ks];exact hnd.2
    refine kCall.rd (kid_index_ok W S.c hks hkt hkl hkn hkj) ?_
    k_all
    refine WE.bi1 ?_ cls_len (by kernel_rfl) (by decide+kernel)
    k_all
    refine kF1.lenL .t (by rw [length_map];exact Nat.le_trans hlv (by decide)) ?_
    by_cases q:i0=(s1::lv).length
    · rw [if_pos q] at hje
      revert hsb hsin hsmv;ctx_has bn bkvs binh bpg a2
      refine kC2.eq (d:=true) (by rw [length_map,← q];simp) ?_
      k_all
      rw [hje]
      k_all
      exact kFin.drop (vals:=[]) kFin.end
    · rw [if_neg q] at hje
      revert hsb hsin hsmv;ctx_has bn bkvs binh bpg a2
      refine kC2.eq (d:=false) (by rw [length_map];simp only [beq_eq_false_iff_ne,ne_eq,Int.natCast_inj];exact q) ?_
      k_all
      rw [hje]
      k_all
      exact kFin.drop (vals:=[]) kFin.end
theorem put_reference_ok (W:Wd) {T R:Addr} {pre post:Ow} {tab root} (S:Shf (OwT pre T tab post) T R tab root) (hz:tab.length<=500) {n0:Int} {r0:SpR} {lv:List SpR} {ks:List Int} (O:SpOk tab root n0 (r0::lv)) (hf:Flat n0 r0 lv ks) (hkt:∀k∈ks,∃kv,tGet tab k=some kv) (hkl:r0.kvs.length<=20)
 {i0:Nat} (hi0:i0<=lv.length) {m0:Int} {out2:List SpR} (O2:SpOk (tPut tab n0 (turnedF r0.kvs [(Str.ofString "Kids",mRefs (ks.take i0++[m0]++ks.drop i0))])) root n0 out2)
 (hab2:∀s∈out2,∀a∈s.above,a∈out2.map (λ zz=>zz.n)) (hd2:∀s∈out2,s.kvs.length<=20) {tabF} (hF:Stl (countsF out2) (tPut tab n0 (turnedF r0.kvs [(Str.ofString "Kids",mRefs (ks.take i0++[m0]++ks.drop i0))])) out2 tabF) :
 Mu W false 569 20 [mShelf T R,.int i0,mRef m0] pre T tab tabF post .none:=by
 revert S hz O hf hkt hkl hi0 O2 hab2 hd2;ctx_has W T R pre post tab root n0 r0 lv ks i0 m0 out2 tabF
 have hlen:=O.len
 rw [length_cons] at hlen
 have hksl:ks.length<=60:=by rw [hf.ks,length_map];exact Nat.le_of_lt (by assumption)
 have hks:=hf.kids
 ktr_call [("shelf",false),("at",false),("reference",false),("node",false),("spot",false),("kids",false)] enter
 k_all
 ktr_call gl_place_of call
 refine kCall.rd (place_of_ok W S O hf hkt hi0) ?_
 obtain ⟨rn,rkvs,rab,rinh,rpg⟩:=r0
 ctx_has rn rkvs rab rinh rpg
 obtain rfl:rn=n0:=hf.n
 k_all
 ktr_call gl_kids_of call
 refine kCall.rd (kids_of_ok W T R _ hks) ?_
 k_all
 ktr_call gl_lay call
 ktr_call gl_turned call
 refine WE.frz (WE.dct1 λ d=>WE.frz ?_)
 ctx_has d
 k_all
 refine kSlTo.mk .t (by rw [length_map];exact Nat.le_trans (by assumption) (by decide)) λ a1=>?_
 ctx_has a1
 k_all
 refine WE.lst ?_
 k_all
 refine kLst.mk λ a2=>?_
 ctx_has a2
 refine kB2.addL (.o (.tail _ (.head _))) (.o (.head _)) (by simp only [length_append,length_take,length_map,length_cons,length_nil];lia) λ a3=>?_
 ctx_has a3
 k_all
 refine kSlFrom.mk .t (by rw [length_map];exact Nat.le_trans (by assumption) (by decide)) λ a4=>?_
 ctx_has a4
 refine kB2.addL (.o (.tail _ (.head _))) (.o (.head _)) (by simp only [length_append,length_take,List.length_drop,length_map,length_cons,length_nil];omega) λ a5=>?_
 ctx_has a5
 refine kFrz.lst .head ?_
 refine kD1.mk (.tail (.tail (.tail (.tail .head)))) (kFrz.dct (.tail (.tail (.tail (.tail .head)))) ?_)
 have e1:(ks.map mRef).take i0++[mRef m0]++(ks.map mRef).drop i0=(ks.take i0++[m0]++ks.drop i0).map mRef:=by simp
 rw [e1]
 k_all
 refine kCall.rd (turned_ok W _ _ _ (by have:rkvs.length<=20:=hkl;simp only [length_append,length_cons,length_nil];exact Nat.lt_of_le_of_lt (by assumption) (by decide))) ?_
 k_all
 refine kCall.md (lay_ok W R (by exact Nat.le_trans (by assumption) (by decide)) (.tail (.tail (.tail (.tail OwT.up))))) ?_
 k_all
 ktr_call gl_settle call
 refine kCall.md (settle_ok (pre:=_::_::_::_::pre) W (S.up OwT.up).c.c.c.c (Nat.le_trans (tPut_len _ _ _) (by exact Nat.lt_of_le_of_lt (by assumption) (by decide))) O2 hab2 hd2 hF) ?_
 k_all
 exact kFin.drop (vals:=[]) (kFin.drop (kFin.drop (kFin.drop (kFin.mu (tab:=tab)))))
theorem insert_page_ok (W:Wd) {T R:Addr} {pre post:Ow} {tab root} (S:Shf (OwT pre T tab post) T R tab root) (hz:tab.length<=400) {n0:Int} {r0:SpR} {lv:List SpR} {ks:List Int} (O:SpOk tab root n0 (r0::lv)) (hf:Flat n0 r0 lv ks) (hkt:∀k∈ks,∃kv,tGet tab k=some kv)
 {k0:Nat} (hk0:tab.map (λ zz=>zz.1)=keysTo k0) {pkv:Kvs} (hpf:∀p∈pkv,FlatV p.2) (hpl:pkv.length<=20) (hpn:(pkv.map (λ zz=>zz.1)).Nodup) {i0:Nat} (hi0:i0<=lv.length) {tabA:List (Int×Kvs)} (htA:tabA=tab++[((k0:Int)+1,turnedF pkv [(Str.ofString "Type",mName (Str.ofString "Page")),(Str.ofString "Parent",.none)])])
 (OA:SpOk tabA root n0 (r0::lv)) (hktA:∀k∈ks,∃kv,tGet tabA k=some kv) (hkl:r0.kvs.length<=20) {out2:List SpR} (O2:SpOk (tPut tabA n0 (turnedF r0.kvs [(Str.ofString "Kids",mRefs (ks.take i0++[(k0:Int)+1]++ks.drop i0))])) root n0 out2)
 (hab2:∀s∈out2,∀a∈s.above,a∈out2.map (λ zz=>zz.n)) (hd2:∀s∈out2,s.kvs.length<=20) {tabF} (hF:Stl (countsF out2) (tPut tabA n0 (turnedF r0.kvs [(Str.ofString "Kids",mRefs (ks.take i0++[(k0:Int)+1]++ks.drop i0))])) out2 tabF) :
 Mu W false 576 24 [mShelf T R,.int i0,.dct pkv] pre T tab tabF post (mRef ((k0:Int)+1)):=by
 ktr_call [("shelf",false),("at",false),("page_dict",false),("reference",false)] enter
 k_all
 ktr_call gl_place_of call
 refine kCall.rd (place_of_ok W S O hf hkt hi0) ?_
 k_all
 refine' WE.methF (f:=339) (x:=Str.ofString "add") ?_ (by kernel_rfl)
 k_all
 refine kMf.inst mt_add ?_
 k_all
 ktr_call gl_turned call
 ktr_call gl_copied call
 refine kCall.rd (copied_d_ok W _ hpf hpl hpn) ?_
 k_all
 refine WE.frz (WE.dct2 λ d=>?_)
 ktr_call gl_Name call
 refine name_new ?_
 k_all
 refine kD1.mk .head (kFrz.dct .head ?_)
 k_all
 refine kCall.rd (turned_ok W _ _ _ (by simp only [length_append,length_cons,length_nil];lia)) ?_
 k_all
 refine kCall.md (add_ok W R (by exact Nat.le_trans (by assumption) (by decide)) hk0 OwT.up) ?_
 k_all
 ktr_call gl_put_reference call
 subst htA
 refine kCall.md (put_reference_ok W (S.up OwT.up) (by rw [length_append,length_cons,length_nil];exact Nat.lt_of_le_of_lt (by assumption) (by decide)) OA hf hktA hkl hi0 O2 hab2 hd2 hF) ?_
 k_all
 exact kFin.mu
noncomputable def FKEYS:List Str:=[Str.ofString "N",Str.ofString "Rotate",Str.ofString "CropBox",Str.ofString "MediaBox"]
noncomputable def fldsOf (kvs:Kvs):List MV:=FKEYS.map λ k=>toldV (mGetD kvs k)
theorem fields_ok (W:Wd) (own:Ow) {kvs:Kvs} (hp:∀p∈kvs,FlatV p.2):Rd W false 619 12 [.dct kvs] own (.lst (fldsOf kvs)):=by
 ctx_has W own kvs
 ktr_call [("head",true)] enter
 k_all
 refine kComp.tup (src:=FKEYS.map MV.str) (λ i ys o=>ys=(FKEYS.take i).map (λ k=>toldV (mGetD kvs k))/\o=own) (.cons .head (by k_mem) .nil) ⟨rfl,rfl⟩ ?_ ?_ (by decide)
 · intro c' i mv ys o hi hQ1;refine EV0_0 hQ1 ?_;clear hQ1 ys o
   refine map_at hi λ k hk=>?_;clear hi mv
   have hfl:mGetD kvs k = .none\/FlatV (mGetD kvs k):=by
    unfold mGetD mGet
    cases q:kvs.find? λ kv=>kv.1=k with
    | none=>exact .inl rfl
    | some p=>exact .inr (hp p (mem_of_find?_eq_some q))
   k_all
   ktr_call gl_told_objects call
   refine ON.get1s .t (mv:=mGetD kvs k) rfl ?_
   k_all
   refine kCall.rd (told_v_ok W own hfl) ?_
   k_all
   exact ⟨by rw [take_snoc' hk];simp,rfl⟩
 · intro ys o hQ2;refine EV0_0 hQ2 ?_;clear hQ2 ys o;intro a
   rw [length_map,take_length]
   exact kFin.lst (vals:=[]) kFin.end
noncomputable abbrev rowsL (rows:List (Int×List MV)):List MV:=rows.map λ r=>.tup [.int r.1,.lst r.2]
noncomputable def rowsMV (rows:List (Int×List MV)):MV:=.lst (rowsL rows)
noncomputable abbrev rowOf (s:SpR):Int×List MV:=(s.n,fldsOf (fieldsF s.kvs s.inh))
theorem seen_own (W:Wd) {T R:Addr} {own:Ow} {tab root} (S:Shf own T R tab root) {n0:Int} {out:List SpR} (O:SpOk tab root n0 out) (hd:∀s∈out,HdOk s.kvs/\s.inh.length<=20) (hf:∀s∈out,∀p∈fieldsF s.kvs s.inh,FlatV p.2) :
 Tl W false 624 22 [mShelf T R] own λ m o=>∃a,m = .ptr a/\o=(a,.lst (rowsL ((out.filter (λ zz=>zz.pg)).map rowOf)))::own:=by
 have hlen:=O.len
 have hflen:(out.filter (λ zz=>zz.pg)).length<=60:=Nat.le_trans (List.length_filter_le _ _) hlen
 ktr_call [("shelf",false)] enter
 k_all
 ktr_call gl_pages call
 refine kCall.rd (pages_ok W S O hd) ?_
 refine kComp.lst (λ i l o=>l=(((out.filter (λ zz=>zz.pg)).take i).map rowOf).map (λ r=>.tup [.int r.1,.lst r.2])/\o=own) .nil ⟨rfl,rfl⟩ ?_ ?_ (by simp;exact Nat.le_trans (by assumption) (by decide))
 · intro c' i mv l o hi hQ3;refine EV0_0 hQ3 ?_;clear hQ3 l o
   refine map_at hi λ sp hsp=>?_;clear hi mv
   have hst:=take_snoc' hsp
   have hin:=(mem_filter.mp (mem_of_getElem? hsp)).1
   k_all
   ktr_call gl_law_fields call
   refine kCall.rd (fields_ok W own (hf sp hin)) ?_
   k_all
   exact ⟨by rw [hst];simp,rfl⟩
 · intro l o hQ4;refine EV0_0 hQ4 ?_;clear hQ4 l o;intro a
   rw [length_map,take_length]
   exact kFin.of (own₀:=[]) (vals:=[]) ⟨a,rfl,rfl⟩
theorem seen_ok (W:Wd) {T R:Addr} {own:Ow} {tab root} (S:Shf own T R tab root) {n0:Int} {out:List SpR} (O:SpOk tab root n0 out) (hd:∀s∈out,HdOk s.kvs/\s.inh.length<=20) (hf:∀s∈out,∀p∈fieldsF s.kvs s.inh,FlatV p.2) :
 Rd W false 624 22 [mShelf T R] own (rowsMV ((out.filter (λ zz=>zz.pg)).map rowOf)):=(seen_own W S O hd hf).frz .lst
noncomputable def rowT (tab:List (Int×Kvs)) (n:Int):MV:=match tGet tab n with | some kvs=>.tup [.int n,.int 0,toldD kvs] | none=>.none
noncomputable abbrev toldShelf (tab:List (Int×Kvs)) (root:Option Int) (k:Nat):MV:=.tup [.tup ((keysTo k).map (rowT tab)),toldD (trlM root)]
theorem trlM_flat (root:Option Int):(∀p∈trlM root,FlatV p.2)/\(trlM root).length<=20:=by
 induction root with
 | none=>exact ⟨λ zz h=>(nomatch h),by decide⟩
 | some n=>exact ⟨λ p hp=>by rw [mem_singleton.mp hp];exact .ref n,Nat.le_of_ble_eq_true rfl⟩
theorem shelf_told_ok (W:Wd) {T R:Addr} {own:Ow} {tab root} (S:Shf own T R tab root) {k:Nat} (hz:k < 60) (hk0:tab.map (λ zz=>zz.1)=keysTo k) (hg:∀p∈tab,(∀q∈p.2,FlatV q.2)/\p.2.length<=20):Rd W true 365 16 [mShelf T R] own (toldShelf tab root k):=by
 revert S;ctx_has W T R own tab root k
 have hT:=S.t
 have hkl:(keysTo k).length=k:=by simp [keysTo]
 obtain ⟨hr1,hr2⟩:=trlM_flat root
 ktr_call [("self",true),("rows",false)] enter
 k_all
 refine WE.ty1 ?_ cls_tuple (by kernel_rfl) (by decide+kernel)
 k_all
 refine' WE.methF0 (f:=353) (x:=Str.ofString "numbers") ?_ (by kernel_rfl)
 k_all
 refine kMf0.inst mt_numbers ?_
 refine kCall.rd (numbers_ok W R hT hz hk0) ?_
 refine kComp.lst (λ i ys o=>ys=((keysTo k).take i).map (rowT tab)/\o=own) (.cons .head (by k_mem) .nil) ⟨rfl,rfl⟩ ?_ ?_ (by rw [length_map];lia)
 · intro c' i mv ys o hi hQ1;refine EV0_0 hQ1 ?_;clear hQ1 ys o
   refine map_at hi λ n hn=>?_;clear hi mv
   have hin:n∈tab.map (λ zz=>zz.1):=by rw [hk0];exact mem_of_getElem? hn
   refine E1_2 (mem_map.mp hin) λ p hp e=>?_
   obtain ⟨kvs,htg,hmem⟩:∃kvs,tGet tab n=some kvs/\(n,kvs)∈tab:=by
    unfold tGet
    cases q:tab.find? λ p=>p.1=n with
    | none=>exact absurd (List.find?_eq_none.mp q p hp) (by simp [e])
    | some p' =>
     have h1:=mem_of_find?_eq_some q
     have h2:p'.1=n:=by simpa using List.find?_some q
     exact ⟨p'.2,rfl,by rw [←h2];exact h1⟩
   have hrow:rowT tab n = .tup [.int n,.int 0,toldD kvs]:=by unfold rowT;rw [htg]
   obtain ⟨h1,h2⟩:=hg _ hmem
   k_all
   refine kSb2.int (.o hT) (tab_get htg) ?_
   k_all
   refine kSb2.itT (i:=0) rfl rfl (Nat.le_of_ble_eq_true rfl) ?_
   k_all
   ktr_call gl_told_objects call
   refine kSb2.int (.o hT) (tab_get htg) ?_
   k_all
   refine kSb2.itT (i:=1) rfl rfl (Nat.le_of_ble_eq_true rfl) ?_
   k_all
   refine kCall.rd (told_dr_ok W .t h1 h2) ?_
   k_all
   exact ⟨by rw [take_snoc' hn];simp [hrow],rfl⟩
 · intro ys o hQ2;refine EV0_0 hQ2 ?_;clear hQ2 ys o;intro a
   rw [length_map,take_length]
   refine kF1.tupL (.o (.head _)) (by rw [length_map];lia) ?_
   k_all
   ktr_call gl_told_objects call
   refine kCall.rd (told_dr_ok W (.o (.tail _ S.r)) hr1 hr2) ?_
   k_all
   exact kFin.drop (vals:=[]) kFin.end
theorem grouped_ok (W:Wd) (own:Ow) {ms:List MV} (hl0:0 < ms.length) (hl:ms.length<=60) {w0:Nat} (hw:2<=w0) (hw2:w0<=60) {mny:Nat} (hmny:(ms.length+w0 - 1) / w0=mny):Rd W false 547 4 [.lst ms,.int w0] own (.lst ((List.range mny).map λ i=>.lst (cut ms mny i))):=by
 revert hl0 hl hw hw2;ctx_has W own ms w0 mny
 have hm60:mny<=60:=by rw [←hmny];exact Nat.le_trans (Nat.div_le_div_left hw (by decide)) (by lia)
 have hm1:0 < mny:=by rw [←hmny];exact Nat.div_pos (by lia) (by exact Nat.le_of_lt (by assumption))
 have em:(((ms.length:Nat):Int)+(w0:Int) - 1).fdiv (w0:Int)=(mny:Int):=by
  rw [Int.fdiv_eq_ediv_of_nonneg _ (by exact Int.natCast_nonneg _),← hmny]
  have:((ms.length:Nat):Int)+(w0:Int) - 1=((ms.length+w0 - 1:Nat):Int):=by lia
  rw [this];exact (Int.natCast_ediv _ _).symm
 have ed:∀a:Nat,((a * ms.length:Nat):Int).fdiv (mny:Int)=((a * ms.length / mny:Nat):Int):=λ a=>by
  rw [Int.fdiv_eq_ediv_of_nonneg _ (by exact Int.natCast_nonneg _)];exact (Int.natCast_ediv _ _).symm
 ktr_call [("parts",true),("width",false),("many",true)] enter
 k_all
 refine WE.bi1 ?_ cls_len (by kernel_rfl) (by decide+kernel)
 k_all
 refine kF1.lenL .t (by exact Nat.le_trans (by assumption) (by decide)) ?_
 k_all
 refine kB2.div (by lia) (PyProof.noPylong_small (by exact Nat.lt_of_le_of_lt (by assumption) (by decide))) ?_
 rw [em]
 k_all
 refine kCompR.mk (λ i l o=>l=((List.range i).map λ i=>.lst (cut ms mny i))/\o=own) (.cons (y:=Str.ofString "parts") (by ktr_rel) (by k_mem) (.cons (y:=Str.ofString "many") (by ktr_rel) (by k_mem) .nil)) ⟨rfl,rfl⟩ ?_ ?_ (by exact Nat.le_trans (by assumption) (by decide))
 · intro c' i l o hi hQ1;ctx_has c' i l o;refine EV0_0 hQ1 ?_;clear hQ1 l o
   refine WC.n (WE.frz ?_)
   k_all
   have hz1:∀a:Nat,a<=100->a * ms.length<=6000:=λ a ha=>Nat.le_trans (Nat.mul_le_mul ha hl) (by decide)
   k_all
   refine WE.bi1 ?_ cls_len (by kernel_rfl) (by decide+kernel)
   k_all
   refine kF1.lenL .t (by exact Nat.le_trans (by assumption) (by decide)) ?_
   refine kB2.mul (by mul_fits) ?_
   have em1:((i:Nat):Int) * ((ms.length:Nat):Int)=((i * ms.length:Nat):Int):=(Int.natCast_mul _ _).symm
   have em2:(((i:Nat):Int)+1) * ((ms.length:Nat):Int)=(((i+1) * ms.length:Nat):Int):=by rw [Int.natCast_mul];rfl
   have hp1:=hz1 i (by lia)
   have hp2:=hz1 (i+1) (by lia)
   have hby:(i+1) * ms.length / mny<=ms.length:=by
    refine Nat.le_trans (Nat.div_le_div_right (Nat.mul_le_mul_right _ (show i+1<=mny by assumption))) ?_
    rw [Nat.mul_comm,Nat.mul_div_cancel _ hm1];exact Nat.le_refl _
   have hbx:i * ms.length / mny<=(i+1) * ms.length / mny:=Nat.div_le_div_right (Nat.mul_le_mul_right _ (Nat.le_succ i))
   rw [em1]
   k_all
   refine kB2.div (by lia) (PyProof.noPylong_small (by exact Nat.lt_of_le_of_lt (by assumption) (by decide))) ?_
   rw [ed]
   k_all
   refine WE.bi1 ?_ cls_len (by kernel_rfl) (by decide+kernel)
   k_all
   refine kF1.lenL .t (by exact Nat.le_trans (by assumption) (by decide)) ?_
   refine kB2.mul (by mul_fits) ?_
   rw [em2]
   k_all
   refine kB2.div (by lia) (PyProof.noPylong_small (by exact Nat.lt_of_le_of_lt (by assumption) (by decide))) ?_
   rw [ed]
   refine kRun2.mk .t (by exact Nat.le_trans (by assumption) (by decide)) rfl rfl hby hbx λ a=>?_
   refine kFrz.lst .head ?_
   exact ⟨by rw [List.range_succ];simp [cut],rfl⟩
 · intro l o hQ2;refine EV0_0 hQ2 ?_;clear hQ2 l o;intro a
   exact kFin.lst (vals:=[]) kFin.end
noncomputable def app (tab:List (Int×Kvs)) (h:Kvs):List (Int×Kvs):=tab++[((tab.length:Int)+1,h)]
theorem app_len (tab h):(app tab h).length=tab.length+1:=by simp [app]
theorem apps_len:∀ (hs:List Kvs) (tab:List (Int×Kvs)),(hs.foldl app tab).length=tab.length+hs.length
 | [],_=>rfl
 | h::r,tab=>by rw [foldl_cons,apps_len r,app_len,length_cons];simp+arith
theorem app_keys {tab:List (Int×Kvs)} (hk:tab.map (λ zz=>zz.1)=keysTo tab.length) (h):(app tab h).map (λ zz=>zz.1)=keysTo (app tab h).length:=by
 rw [app_len];unfold app keysTo at *
 rw [map_append,hk,List.range_succ,map_append];rfl
theorem apps_keys:∀ (hs:List Kvs) {tab:List (Int×Kvs)},tab.map (λ zz=>zz.1)=keysTo tab.length->(hs.foldl app tab).map (λ zz=>zz.1)=keysTo (hs.foldl app tab).length
 | [],_,hk=>hk
 | h::r,_,hk=>apps_keys r (app_keys hk h)
noncomputable def pgHead (kv:Kvs):Kvs:=turnedF kv [(Str.ofString "Type",mName (Str.ofString "Page")),(Str.ofString "Parent",.none)]
noncomputable def ndHead (ks:List Int):Kvs:=[(Str.ofString "Type",mName (Str.ofString "Pages")),(Str.ofString "Kids",mRefs ks)]
noncomputable def nxt (k c:Nat):List Int:=(List.range c).map λ (i:Nat)=>((k+i:Nat):Int)+1
noncomputable def cutI (l:List Int) (many i:Nat):List Int:=(l.drop (i * l.length / many)).take ((i+1) * l.length / many - i * l.length / many)
inductive Lv (w0:Nat):List (Int×Kvs)->List Int->List (Int×Kvs)->List Int->Prop
 | done {tab l}:l.length<=w0->Lv w0 tab l tab l
 | step {tab l many tabF lF}:w0 < l.length->(l.length+w0 - 1) / w0=many ->
  Lv w0 (((List.range many).map λ i=>ndHead (cutI l many i)).foldl app tab) (nxt tab.length many) tabF lF->Lv w0 tab l tabF lF
theorem Lv.len {w0:Nat} {tab l tabF lF} (h:Lv w0 tab l tabF lF):tab.length<=tabF.length:=by
 induction h with
 | done zz=>exact Nat.le_refl _
 | step _ _ _ ih=>rw [apps_len] at ih;lia
theorem cut_map (l:List Int) (many i:Nat):cut (l.map mRef) many i=(cutI l many i).map mRef:=by
 unfold cut cutI;rw [length_map,List.map_take,List.map_drop]
theorem nxt_len (k c:Nat):(nxt k c).length=c:=by simp [nxt]
theorem nxt_succ (k i:Nat):nxt k (i+1)=nxt k i++[((k+i:Nat):Int)+1]:=by unfold nxt;rw [List.range_succ,map_append];rfl
theorem add1_ok (W:Wd) {T R:Addr} {pre post:Ow} {tab:List (Int×Kvs)} (hz:tab.length<=800) (hk:tab.map (λ zz=>zz.1)=keysTo tab.length) {kvs:Kvs}:Mu W false 339 5 [mShelf T R,.dct kvs] pre T tab (app tab kvs) post (mRef ((tab.length:Int)+1)):=add_ok W R hz hk OwT.up
theorem build_ok (W:Wd) {T R:Addr} {post:Ow} {ps:List Kvs} (hps:ps.length<=40) (hp0:0 < ps.length) (hpf:∀kv∈ps,(∀p∈kv,FlatV p.2)/\kv.length<=20/\(kv.map (λ zz=>zz.1)).Nodup) {w0:Nat} (hw:2<=w0) (hw2:w0<=60)
 {tabL lL} (hL:Lv w0 ((ps.map pgHead).foldl app []) (nxt 0 ps.length) tabL lL) (hLl:tabL.length<=300) (hlL:lL.length<=60) {out:List SpR} (hs:SpOk (app (app tabL (ndHead lL)) (turnedF [] [(Str.ofString "Type",mName (Str.ofString "Catalog")),(Str.ofString "Pages",mRef ((tabL.length:Int)+1))])) (some ((tabL.length:Int)+1+1)) ((tabL.length:Int)+1) out)
 (hab:∀s∈out,∀a∈s.above,a∈out.map (λ zz=>zz.n)) (hd:∀s∈out,s.kvs.length<=20) {tabF} (hF:Stl (countsF out) (app (app tabL (ndHead lL)) (turnedF [] [(Str.ofString "Type",mName (Str.ofString "Catalog")),(Str.ofString "Pages",mRef ((tabL.length:Int)+1))])) out tabF) :
 Md W false 552 24 [mShelf T R,.lst (ps.map .dct),.int w0] ((R,.dct (trlM none))::(T,.ict (tabM []))::post) ((R,.dct (trlM (some ((tabL.length:Int)+1+1))))::(T,.ict (tabM tabF))::post) (mRef ((tabL.length:Int)+1)):=by
 revert hps hp0 hpf hw hw2 hL hLl hlL hs hab hd;ctx_has W T R post ps w0 tabL lL out tabF
 have S0:Shf ((R,.dct (trlM none))::(T,.ict (tabM []))::post) T R [] none:=⟨.tail _ (.head _),.head _⟩
 ktr_call [("shelf",true),("page_dicts",false),("width",false),("home",false),("level",false),("root",false),("head",false)] enter
 k_all
 refine kC2.lt (d:=false) (decide_eq_false (by lia)) ?_
 k_all
 refine kCall.rd (root_ok W S0 rfl) ?_
 k_all
 refine WE.frz (WE.dict0 λ zz=>kFrz.dct .head ?_)
 refine kC2.eqEmp (b:=true) .t rfl ?_
 k_all
 refine kComp.lst (λ i l o=>l=(nxt 0 i).map mRef/\o=OwT [(R,.dct (trlM none))] T (((ps.take i).map pgHead).foldl app []) post) (.cons .head (by k_mem) .nil) ⟨rfl,rfl⟩ ?_ ?_ (by rw [length_map];exact Nat.le_trans (by assumption) (by decide))
 · intro c' i mv l o hi hQ1;refine EV0_0 hQ1 ?_;clear hQ1 l o
   refine map_at hi λ kv hkv=>?_;clear hi mv
   refine E0_3 (hpf kv (mem_of_getElem? hkv)) λ f1 f2 f3=>?_
   ctx_has c' i kv
   have hst:=take_snoc' hkv
   have hil:=(List.getElem?_eq_some_iff.mp hkv).1
   generalize htb:((ps.take i).map pgHead).foldl app []=tb
   ctx_has tb
   have hk1:tb.map (λ zz=>zz.1)=keysTo tb.length:=htb ▸ apps_keys _ rfl
   have hl1:tb.length=i:=by rw [←htb,apps_len];simp;lia
   k_all
   refine' WE.methF (f:=339) (x:=Str.ofString "add") ?_ (by kernel_rfl)
   k_all
   refine kMf.inst mt_add ?_
   k_all
   ktr_call gl_turned call
   ktr_call gl_copied call
   refine kCall.rd (copied_d_ok W _ f1 f2 f3) ?_
   k_all
   refine WE.frz (WE.dct2 λ d=>?_)
   ctx_has d
   ktr_call gl_Name call
   refine name_new ?_
   k_all
   refine kD1.mk .head (kFrz.dct .head ?_)
   k_all
   refine kCall.rd (turned_ok W _ _ _ (by simp only [length_append,length_cons,length_nil];lia)) ?_
   k_all
   refine kCall.md (add1_ok W (by lia) hk1) ?_
   k_all
   exact ⟨by rw [nxt_succ,map_append,hl1];simp,by rw [hst,map_append,List.foldl_append,htb];rfl⟩
 intro l o hQ2;refine EV0_0 hQ2 ?_;clear hQ2 l o;intro a
 ctx_has a
 rw [length_map,take_length]
 refine ⟨_,by ktn_open,?_⟩
 refine WS.frz .head .lst (by kpc_g) ?_
 refine WS.while (n₀:=ps.length) (λ n vals o=>∃tb l,vals=[some (mShelf T R),some (.lst (ps.map .dct)),some (.int w0),some .none,some (mRefs l),none,none]/\o=OwT [(R,.dct (trlM none))] T tb post/\tb.map (λ zz=>zz.1)=keysTo tb.length/\Lv w0 tb l tabL lL/\l.length=n/\0 < n/\n<=40)
  ⟨_,_,rfl,rfl,apps_keys _ rfl,hL,nxt_len _ _,hp0,hps⟩ ?_
 intro n vals o hE2;refine EV2_5 vals o hE2 λ tb l hk1 hLv hln hn0 hn40=>?_;clear hE2 vals o
 ctx_has n tb l
 have htl:=hLv.len
 k_all
 refine WE.bi1 ?_ cls_len (by kernel_rfl) (by decide+kernel)
 k_all
 refine kF1.lenL .t (by rw [length_map];lia) ?_
 rw [length_map]
 k_all
 cases hLv with
 | done hle =>
  refine kC2.gt (d:=false) (decide_eq_false (by lia)) ?_
  k_all
  refine' WE.methF (f:=339) (x:=Str.ofString "add") ?_ (by kernel_rfl)
  k_all
  refine kMf.inst mt_add ?_
  k_all
  refine WE.frz (WE.dct2 λ d2=>?_)
  ctx_has d2
  ktr_call gl_Name call
  refine name_new ?_
  k_all
  refine kD1.mk .head (kFrz.dct .head ?_)
  k_all
  refine kCall.md (add1_ok W (by lia) hk1) ?_
  k_all
  ktr_call gl_turned call
  have S1:Shf (OwT [(R,.dct (trlM none))] T (app tabL (ndHead lL)) post) T R (app tabL (ndHead lL)) none:=⟨.tail _ (.head _),.head _⟩
  refine kCall.rd (root_ok W S1 rfl) ?_
  k_all
  refine WE.frz (WE.dct2 λ d3=>?_)
  ctx_has d3
  ktr_call gl_Name call
  refine name_new ?_
  k_all
  refine kD1.mk .head (kFrz.dct .head ?_)
  k_all
  refine kCall.rd (turned_ok W _ _ _ (Nat.le_of_ble_eq_true rfl)) ?_
  k_all
  refine kC2.isY ?_
  k_all
  refine' WE.methF (f:=339) (x:=Str.ofString "add") ?_ (by kernel_rfl)
  k_all
  refine kMf.inst mt_add ?_
  k_all
  have hk2:=app_keys hk1 (ndHead lL)
  refine kCall.md (add1_ok W (by rw [app_len];lia) hk2) ?_
  k_all
  rw [app_len]
  refine kSet.str (own':=OwT [(R,.dct (trlM (some ((tabL.length:Int)+1+1))))] T (app (app tabL (ndHead lL)) (turnedF [] [(Str.ofString "Type",mName (Str.ofString "Catalog")),(Str.ofString "Pages",mRef ((tabL.length:Int)+1))])) post) .head (by decide) ?_
  k_all
  ktr_call gl_settle call
  refine kCall.md (settle_ok (pre:=[(R,.dct (trlM (some ((tabL.length:Int)+1+1))))]) W ⟨.tail _ (.head _),.head _⟩ (by rw [app_len,app_len];lia) hs hab hd hF) ?_
  k_all
  exact kFin.md
 | @step _ _ many _ _ h1 h2 h3 =>
  ctx_has many
  refine kC2.gt (d:=true) (decide_eq_true (by lia)) ?_
  k_all
  ktr_call gl_grouped call
  refine kCall.rd (grouped_ok W _ (ms:=mRefsL l) (mny:=many) (by rw [length_map];simp+arith [*]) (by rw [length_map];lia) hw hw2 (by rw [length_map];exact h2)) ?_
  have hm1:0 < many:=by rw [←h2];exact Nat.div_pos (by lia) (by exact Nat.le_of_lt (by assumption))
  have hm2:many < l.length:=by
   rw [←h2]
   refine (Nat.div_lt_iff_lt_mul (by exact Nat.le_of_lt (by assumption))).mpr ?_
   have:2 * l.length<=l.length * w0:=by rw [Nat.mul_comm 2];exact Nat.mul_le_mul_left _ hw
   have h5:w0 - 1 < l.length:=by lia
   lia
  have h4:=h3.len
  rw [apps_len,length_map,List.length_range] at h4
  refine kComp.lst (λ i ys o=>ys=(nxt tb.length i).map mRef/\o=OwT [(R,.dct (trlM none))] T ((((List.range many).map λ i=>ndHead (cutI l many i)).take i).foldl app tb) post) (.cons .head (by k_mem) .nil) ⟨rfl,rfl⟩ ?_ ?_ (by rw [length_map,List.length_range];lia)
  · intro c' i mv ys o hi hQ3;refine EV0_0 hQ3 ?_;clear hQ3 ys o
    refine map_at hi λ j hj=>?_;clear hi mv
    obtain ⟨hil,hij⟩:=List.getElem?_eq_some_iff.mp hj
    ctx_has c' i j
    rw [List.getElem_range] at hij
    subst hij
    rw [List.length_range] at hil
    have hst:=take_snoc' (l:=(List.range many).map λ i=>ndHead (cutI l many i)) (i:=i) (x:=ndHead (cutI l many i)) (by rw [getElem?_map,hj];rfl)
    generalize htb:(((List.range many).map λ i=>ndHead (cutI l many i)).take i).foldl app tb=tb2
    ctx_has tb2
    have hk2:tb2.map (λ zz=>zz.1)=keysTo tb2.length:=htb ▸ apps_keys _ hk1
    have hl2:tb2.length=tb.length+i:=by rw [←htb,apps_len,length_take,length_map,List.length_range];lia
    rw [cut_map]
    k_all
    refine' WE.methF (f:=339) (x:=Str.ofString "add") ?_ (by kernel_rfl)
    k_all
    refine kMf.inst mt_add ?_
    k_all
    refine WE.frz (WE.dct2 λ d4=>?_)
    ctx_has d4
    ktr_call gl_Name call
    refine name_new ?_
    k_all
    refine kD1.mk .head (kFrz.dct .head ?_)
    k_all
    refine kCall.md (add1_ok W (by lia) hk2) ?_
    k_all
    exact ⟨by rw [nxt_succ,map_append,hl2];trivial,by rw [hst,List.foldl_append,htb];rfl⟩
  · intro ys o hQ4;refine EV0_0 hQ4 ?_;clear hQ4 ys o;intro a2
    ctx_has a2
    rw [length_map,List.length_range,List.take_of_length_le (by simp)]
    refine ⟨_,by ktn_open,?_⟩
    refine WS.frz .head .lst (by kpc_g) ?_
    k_all
    exact kWT.nx (k:=many) (by lia) ⟨_,_,rfl,rfl,apps_keys _ hk1,h3,nxt_len _ _,hm1,by lia⟩
noncomputable abbrev OwP (pre:Ow) (P C:Addr) (ns:List Int) (i:Nat) (g:Int) (post:Ow):Ow:=pre++(P,.lst [.ptr C,.int (i:Int),.int g])::(C,.lst (ns.map .int))::post
theorem OwP.p {pre post:Ow} {P C:Addr} {ns:List Int} {i:Nat} {g:Int}:(P,OV.lst [.ptr C,.int (i:Int),.int g])∈OwP pre P C ns i g post:=mem_append_right _ (.head _)
theorem OwP.c {pre post:Ow} {P C:Addr} {ns:List Int} {i:Nat} {g:Int}:(C,OV.lst (ns.map .int))∈OwP pre P C ns i g post:=mem_append_right _ (.tail _ (.head _))
theorem up_mid {p:Addr} {ov ov':OV} {post:Ow}:∀ {pre:Ow},Up (pre++(p,ov)::post) p ov ov' (pre++(p,ov')::post)
 | []=>.head
 | _::_=>.tail up_mid
noncomputable def DrawP (pre:Ow) (P C:Addr) (ns:List Int) (n:Nat) (post:Ow) (m0:Nat):MV->Ow->Prop:=λ m o=>∃ (i:Nat) (g:Int) (d:Nat),m = .int (d:Int)/\o=OwP pre P C ns i g post/\i<=n+1/\0<=g/\d < m0
theorem DrawP.mk {pre post:Ow} {P C:Addr} {ns:List Int} {n i:Nat} {g x:Int} {m0:Nat} (hi:i<=n+1) (hg:0<=g) (hm:0 < m0):DrawP pre P C ns n post m0 (.int (x.fmod (m0:Int))) (OwP pre P C ns i g post):=by
 have h1:0<=x.fmod (m0:Int):=Int.fmod_nonneg_of_pos _ (by simp+arith [*])
 have h2:x.fmod (m0:Int) < m0:=Int.fmod_lt_of_pos _ (by simp+arith [*])
 exact ⟨i,g,(x.fmod (m0:Int)).toNat,by rw [Int.toNat_of_nonneg h1],rfl,hi,hg,by simp+arith [*]⟩
theorem base1 {i:Nat} (hi:i<=900) (z:Int):(z.fmod 2147483587+20947 * (i:Int)+3571).natAbs < 2 ^ 64:=by
 have h1:0<=z.fmod 2147483587:=Int.fmod_nonneg_of_pos _ (by decide)
 have h2:z.fmod 2147483587 < 2147483587:=Int.fmod_lt_of_pos _ (by decide)
 omega
theorem base2 {i:Nat} (hi:i<=900) (z:Int):(z.fmod 2147483629 * (2 * (i:Int)+7207)+20947 * (i:Int) * (i:Int)+31).natAbs < 2 ^ 64:=by
 have h1:0<=z.fmod 2147483629:=Int.fmod_nonneg_of_pos _ (by decide)
 have h2:z.fmod 2147483629 < 2147483629:=Int.fmod_lt_of_pos _ (by decide)
 generalize z.fmod 2147483629=x at h1 h2
 have h3:x * (2 * (i:Int)+7207)<=2147483629 * 9007:=Int.mul_le_mul (by lia) (by lia) (by exact Int.natCast_nonneg _) (by decide)
 have h4:0<=x * (2 * (i:Int)+7207):=Int.mul_nonneg h1 (by exact Int.natCast_nonneg _)
 have h5:20947 * (i:Int) * (i:Int)<=20947 * 900 * 900:=Int.mul_le_mul (by lia) (by lia) (by exact Int.natCast_nonneg _) (by decide)
 have h6:0<=20947 * (i:Int) * (i:Int):=Int.mul_nonneg (by exact Int.natCast_nonneg _) (by exact Int.natCast_nonneg _)
 generalize x * (2 * (i:Int)+7207)=y at h3 h4
 generalize 20947 * (i:Int) * (i:Int)=v at h5 h6
 omega
theorem draw_ok (W:Wd) {pre post:Ow} {P C:Addr} {ns:List Int} {i:Nat} {g:Int} (hns:ns.length<=40) (hi9:i<=900) (hg0:0<=g) {m0:Nat} (hm0:0 < m0) (hm1:m0<=60) :
 Tl W false 593 6 [.ptr P,.int m0] (OwP pre P C ns i g post) (DrawP pre P C ns i post m0):=by
 revert hns hi9 hg0;ctx_has W pre post P C ns i g m0
 have hms:(m0:Int)≠0:=by lia
 have hP:∀ {i g},(P,OV.lst [.ptr C,.int (i:Int),.int g])∈OwP pre P C ns i g post:=OwP.p
 have hC:∀ {i g},(C,OV.lst (ns.map .int))∈OwP pre P C ns i g post:=OwP.c
 ktr_call [("pen",false),("many",false),("digit",false),("spot",false),("cell",false),("great",false),("stirred",false)] enter
 k_all
 refine kSb2.itL (i:=2) (.o hP) rfl rfl (Nat.le_of_ble_eq_true rfl) ?_
 k_all
 by_cases hg:0 < g
 · refine kC2.gt (d:=true) (decide_eq_true hg) ?_
   k_all
   refine WE.ty1 ?_ cls_int (by kernel_rfl) (by decide+kernel)
   k_all
   refine kSb2.itL (i:=2) (.o hP) rfl rfl (Nat.le_of_ble_eq_true rfl) ?_
   refine kF1.intI ?_
   k_all
   refine kB2.mod hms ?_
   k_all
   refine WE.ty1 ?_ cls_int (by kernel_rfl) (by decide+kernel)
   k_all
   refine kSb2.itL (i:=2) (.o hP) rfl rfl (Nat.le_of_ble_eq_true rfl) ?_
   refine kF1.intI ?_
   k_all
   refine kB2.div hms (PyProof.noPylong_small (by exact Nat.lt_of_le_of_lt (by assumption) (by decide))) ?_
   k_all
   refine kSet.lst (i:=2) up_mid rfl (Nat.le_of_ble_eq_true rfl) (Nat.le_of_ble_eq_true rfl) ?_
   k_all
   exact kFin.of (DrawP.mk (Nat.le_succ i) (Int.fdiv_nonneg hg0 (by exact Int.natCast_nonneg _)) hm0)
 · refine kC2.gt (d:=false) (decide_eq_false hg) ?_
   k_all
   refine kSb2.itL (i:=1) (.o hP) rfl rfl (Nat.le_of_ble_eq_true rfl) ?_
   k_all
   refine kSet.lst (i:=1) up_mid rfl (Nat.le_of_ble_eq_true rfl) (Nat.le_of_ble_eq_true rfl) ?_
   k_all
   refine kB2.mul (by mul_fits) ?_
   k_all
   refine WE.ty1 ?_ cls_int (by kernel_rfl) (by decide+kernel)
   refine WE.bi1 ?_ cls_sum (by kernel_rfl) (by decide+kernel)
   refine WE.frz ?_
   k_all
   refine kSb2.itL (i:=0) (.o (hP (i:=i+1))) rfl rfl (Nat.le_of_ble_eq_true rfl) ?_
   k_all
   refine kSlTo.mk (.o (hC (i:=i+1) (g:=g))) (by rw [length_map];exact Nat.le_trans (by assumption) (by decide)) λ a1=>?_
   refine kFrz.lst .head ?_
   rw [←List.map_take]
   refine kF1.sum .t ?_
   refine kF1.intI ?_
   k_all
   refine kB2.mod (by decide) ?_
   k_all
   refine kSb2.itL (i:=0) (.o (hP (i:=i+1))) rfl rfl (Nat.le_of_ble_eq_true rfl) ?_
   k_all
   refine WE.frz (WE.lst (WA.nil (kLst.mk λ zz=>kFrz.lst .head ?_)))
   obtain ⟨b0,hb0⟩:∃b0,b0 = !(ns.map MV.int).isEmpty:=⟨_,rfl⟩
   refine kC2.neNilL (b:=b0) (.o (hC (i:=i+1) (g:=g))) hb0.symm ?_
   k_all
   refine kIf.mid (λ v o=>∃z,v=[some (.ptr P),some (.int m0),none,some (.int i),some (.int z),none,none]/\o=OwP pre P C ns (i+1) g post) ?_ (λ zz=>WS.nil (kP.nx ⟨_,rfl,rfl⟩)) ?_
   · rintro rfl
     have hl0:0 < ns.length:=by induction ns with | nil=>f_shut hb0 | cons=>exact Nat.succ_pos _
     obtain ⟨z,hz⟩:∃z,ns[i % ns.length]? = some z:=⟨_,List.getElem?_eq_getElem (Nat.mod_lt i hl0)⟩
     k_all
     refine kSb2.itL (i:=0) (.o (hP (i:=i+1))) rfl rfl (Nat.le_of_ble_eq_true rfl) ?_
     k_all
     refine WE.ty1 ?_ cls_int (by kernel_rfl) (by decide+kernel)
     k_all
     refine kF1.intI ?_
     k_all
     refine WE.bi1 ?_ cls_len (by kernel_rfl) (by decide+kernel)
     k_all
     refine kSb2.itL (i:=0) (.o (hP (i:=i+1))) rfl rfl (Nat.le_of_ble_eq_true rfl) ?_
     refine kF1.lenL (.o (hC (i:=i+1) (g:=g))) (by rw [length_map];exact Nat.le_trans (by assumption) (by decide)) ?_
     rw [length_map]
     refine kB2.mod (by lia) ?_
     refine kSb2.itL (i:=i % ns.length) (mv:=.int z) (.o (hC (i:=i+1) (g:=g))) (by rw [Int.fmod_eq_emod_of_nonneg _ (by exact Int.natCast_nonneg _)];exact (Int.natCast_emod _ _).symm) (by rw [getElem?_map,hz];rfl) (by rw [length_map];exact Nat.le_trans (by assumption) (by decide)) ?_
     k_all
     exact kP.nx ⟨_,rfl,rfl⟩
   · intro v o hE0;refine EV1_0 v o hE0 λ z=>?_;clear hE0 v o
     refine WS.ite (WT.tst (G:=(10:Int) ^ Int.toNat 18<=if z < 0 then -z else z) ?_ ?_ ?_)
     · k_all
       refine WE.bi1 ?_ cls_len (by kernel_rfl) (by decide+kernel)
       k_all
       refine kSb2.itL (i:=0) (.o (hP (i:=i+1))) rfl rfl (Nat.le_of_ble_eq_true rfl) ?_
       refine kF1.lenL (.o (hC (i:=i+1) (g:=g))) (by rw [length_map];exact Nat.le_trans (by assumption) (by decide)) ?_
       refine kC2.lt rfl ?_
       by_cases hlt:(i:Int) < ((ns.map MV.int).length:Nat)
       · rw [decide_eq_true hlt]
         k_all
         refine WE.bi1 ?_ cls_abs (by kernel_rfl) (by decide+kernel)
         k_all
         refine kF1.abs ?_
         k_all
         refine kB2.pow (by decide) (by decide) (by decide) ?_
         by_cases hab:(10:Int) ^ Int.toNat 18<=if z < 0 then -z else z
         · refine kC2.ge (decide_eq_true hab) ?_
           k_all
           exact kTst.t hab
         · refine kC2.ge (decide_eq_false hab) ?_
           k_all
           exact kTst.f
       · rw [decide_eq_false hlt]
         k_all
         exact kTst.f
     · intro hab
       k_all
       refine WE.bi1 ?_ cls_abs (by kernel_rfl) (by decide+kernel)
       k_all
       refine kF1.abs ?_
       k_all
       refine kB2.pow (by decide) (by decide) (by decide) ?_
       generalize (10:Int) ^ Int.toNat 18=y at hab ⊢
       k_all
       refine kB2.mul (.of_left (by decide)) ?_
       refine WE.ty1 ?_ cls_int (by kernel_rfl) (by decide+kernel)
       k_all
       refine kC2.lt rfl ?_
       refine kF1.intB ?_
       have hG:0<=2 * ((if z < 0 then -z else z) - y)+if decide (z < 0)=true then 1 else 0:=by split <;> lia
       generalize 2 * ((if z < 0 then -z else z) - y)=x1 at hG ⊢
       generalize (if decide (z < 0)=true then (1:Int) else 0)=x2 at hG ⊢
       k_all
       refine WE.ty1 ?_ cls_int (by kernel_rfl) (by decide+kernel)
       k_all
       refine kF1.intI ?_
       k_all
       refine kB2.div hms (PyProof.noPylong_small (by exact Nat.lt_of_le_of_lt (by assumption) (by decide))) ?_
       k_all
       refine kSet.lst (i:=2) up_mid rfl (Nat.le_of_ble_eq_true rfl) (Nat.le_of_ble_eq_true rfl) ?_
       k_all
       refine WE.ty1 ?_ cls_int (by kernel_rfl) (by decide+kernel)
       k_all
       refine kF1.intI ?_
       k_all
       refine kB2.mod hms ?_
       exact kFin.of (own₀:=[]) (vals:=[]) (DrawP.mk (i:=i+1) (Nat.le_refl _) (Int.fdiv_nonneg hG (by exact Int.natCast_nonneg _)) hm0)
     · k_all
       refine WE.ty1 ?_ cls_int (by kernel_rfl) (by decide+kernel)
       k_all
       refine WE.ty1 ?_ cls_int (by kernel_rfl) (by decide+kernel)
       k_all
       refine kF1.intI ?_
       k_all
       refine kB2.mod (by decide) ?_
       k_all
       refine kB2.mul (.of_left (by decide)) ?_
       k_all
       refine kB2.powAny (by decide) (by decide) (base1 hi9 _) λ p1=>?_
       refine kF1.intI ?_
       k_all
       refine kB2.mod (by decide) ?_
       k_all
       refine WE.ty1 ?_ cls_int (by kernel_rfl) (by decide+kernel)
       k_all
       refine kB2.mul (.of_left (by decide)) ?_
       k_all
       refine kB2.mul (by mul_fits) ?_
       k_all
       refine kB2.mul (.of_left (by decide)) ?_
       k_all
       refine kB2.mul (by mul_fits) ?_
       k_all
       refine kB2.powAny (by decide) (by decide) (base2 hi9 _) λ p2=>?_
       refine kF1.intI ?_
       k_all
       refine kB2.mod (by decide) ?_
       k_all
       refine WE.ty1 ?_ cls_int (by kernel_rfl) (by decide+kernel)
       k_all
       refine kB2.div (by decide) (PyProof.noPylong_small (by decide)) ?_
       refine kF1.intI ?_
       k_all
       refine kB2.mod hms ?_
       exact kFin.of (DrawP.mk (i:=i+1) (Nat.le_refl _) hg0 hm0)
theorem pick_ok (W:Wd) {pre post:Ow} {P C:Addr} {ns:List Int} {i:Nat} {g:Int} (hns:ns.length<=40) (hi9:i<=900) (hg0:0<=g) {ms:List MV} (hm0:0 < ms.length) (hm1:ms.length<=60) :
 Tl W false 600 8 [.ptr P,.lst ms] (OwP pre P C ns i g post) (λ m o=>∃ (i':Nat) (g':Int) (j:Nat),ms[j]? = some m/\o=OwP pre P C ns i' g' post/\i'<=i+1/\0<=g'):=by
 ktr_call [("pen",false),("some",false)] enter
 k_all
 ktr_call gl_law_draw call
 refine WE.bi1 ?_ cls_len (by kernel_rfl) (by decide+kernel)
 k_all
 refine kF1.lenL .t (by exact Nat.le_trans (by assumption) (by decide)) ?_
 k_all
 refine kCall.use (draw_ok W hns hi9 hg0 hm0 hm1) (h:=?_)
 intro m9 o9 hE0;refine EV3_3 m9 o9 hE0 λ i1 g1 d h1 h2 h3=>?_;clear hE0 m9 o9
 refine kSb2.itL .t rfl (List.getElem?_eq_getElem h3) (by exact Nat.le_trans (by assumption) (by decide)) ?_
 exact kFin.of ⟨i1,g1,d,List.getElem?_eq_getElem h3,rfl,h1,h2⟩
noncomputable def hand1 (k:Str) (kvs:Kvs):Option MV->Kvs | none=>kvs | some v=>mPut kvs k v
structure HandV (v:Option MV):Prop where
 ok:∀x,v=some x->FlatV x/\NoRef x
theorem crop_flat (d:Int):FlatV (.lst [.int 1,.int 2,.int 3,.int (4+d)])/\NoRef (.lst [.int 1,.int 2,.int 3,.int (4+d)]):=by
 refine ⟨.lst (λ v hv=>?_) (Nat.le_of_ble_eq_true rfl),.lst _⟩
 simp only [mem_cons,not_mem_nil,or_false] at hv
 rcases hv with rfl | rfl | rfl | rfl <;> exact .int _
theorem rot_flat {i:Nat} {m:MV} (h:[MV.int 90,MV.int 270][i]? = some m):HandV (some m):=by
 refine ⟨λ x e=>?_⟩
 f_shut e
 match i,h with
 | 0,h=>f_shut h;exact ⟨.int _,.int _⟩
 | 1,h=>f_shut h;exact ⟨.int _,.int _⟩
 | _+2,h=>f_shut h
theorem HandV.no:HandV none:=⟨λ zz e=>nomatch e⟩
noncomputable def HandP (H:Addr) (kvs:Kvs) (pre:Ow) (P C:Addr) (ns:List Int) (n:Nat) (post:Ow):MV->Ow->Prop:=λ m o=>m = .none/\∃ (rv cv:Option MV) (i:Nat) (g:Int),o=(H,.dct (hand1 (Str.ofString "CropBox") (hand1 (Str.ofString "Rotate") kvs rv) cv))::OwP pre P C ns i g post/\i<=n+4/\0<=g/\HandV rv/\HandV cv
theorem mPut_len' (kvs:Kvs) (k:Str) (v:MV):(mPut kvs k v).length<=kvs.length+1:=by unfold mPut;split <;> simp
theorem handed_ok (W:Wd) {pre post:Ow} {P C:Addr} {ns:List Int} {i:Nat} {g:Int} (hns:ns.length<=40) (hi9:i<=800) (hg0:0<=g) {H:Addr} {kvs:Kvs} (hkl:kvs.length<=20) :
 Tl W false 607 10 [.ptr P,.ptr H] ((H,.dct kvs)::OwP pre P C ns i g post) (HandP H kvs pre P C ns i post):=by
 revert hns hi9 hg0;ctx_has W pre post P C ns i g H kvs
 ktr_call [("pen",false),("head",false)] enter
 k_all
 ktr_call gl_law_draw call
 refine kCall.use (draw_ok (pre:=(H,.dct kvs)::pre) W hns (by exact Nat.le_trans (by assumption) (by decide)) hg0 (m0:=2) (by decide) (by decide)) (h:=?_)
 intro m9 o9 hE1;refine EV3_3 m9 o9 hE1 λ i1 g1 d1 hi1 hg1 hd1=>?_;clear hE1 m9 o9
 k_all
 refine kC2.eq rfl ?_
 k_all
 refine kIf.mid (λ v o=>∃ (rv:Option MV) (i2:Nat) (g2:Int),v=[some (.ptr P),some (.ptr H)]/\o=(H,.dct (hand1 (Str.ofString "Rotate") kvs rv))::OwP pre P C ns i2 g2 post/\i2<=i+2/\0<=g2/\HandV rv) ?_ (λ zz=>WS.nil (kP.nx ⟨none,_,_,rfl,rfl,by lia,hg1,.no⟩)) ?_
 · intro zz
   k_all
   ktr_call gl_law_pick call
   refine WE.frz (WE.lst ?_)
   k_all
   refine kLst.mk λ a=>kFrz.lst .head ?_
   k_all
   refine kCall.use (pick_ok (pre:=(H,.dct kvs)::pre) W hns (by lia) hg1 (Nat.le_of_ble_eq_true rfl) (Nat.le_of_ble_eq_true rfl)) (h:=?_)
   intro m zz hE2;refine E3_4 hE2 λ i2 g2 j hj e2_4 hi2 hg2=>?_;clear hE2;subst e2_4
   k_all
   refine kSet.str .head (by exact Nat.le_trans (by assumption) (by decide)) ?_
   k_all
   exact kP.nx ⟨some m,_,_,rfl,rfl,by lia,hg2,rot_flat hj⟩
 · intro m9 o9 hE3;refine EV3_3 m9 o9 hE3 λ rv i2 g2 hi2 hg2 hrv=>?_;clear hE3 m9 o9
   k_all
   ktr_call gl_law_draw call
   refine kCall.use (draw_ok (pre:=(H,.dct (hand1 (Str.ofString "Rotate") kvs rv))::pre) W hns (by lia) hg2 (m0:=3) (by decide) (by decide)) (h:=?_)
   intro m9 o9 hE4;refine EV3_3 m9 o9 hE4 λ i3 g3 d3 hi3 hg3 hd3=>?_;clear hE4 m9 o9
   k_all
   refine kC2.eq rfl ?_
   k_all
   refine kIf.mid (λ v o=>HandP H kvs pre P C ns i post .none o) ?_ (λ zz=>WS.nil (kP.nx ⟨rfl,rv,none,_,_,rfl,by lia,hg3,hrv,.no⟩)) ?_
   · intro zz
     k_all
     refine WE.frz (WE.lst ?_)
     k_all
     ktr_call gl_law_draw call
     refine kCall.use (draw_ok (pre:=(H,.dct (hand1 (Str.ofString "Rotate") kvs rv))::pre) W hns (by lia) hg3 (m0:=5) (by decide) (by decide)) (h:=?_)
     intro m9 o9 hE5;refine EV3_3 m9 o9 hE5 λ i4 g4 d4 hi4 hg4 hd4=>?_;clear hE5 m9 o9
     k_all
     refine kLst.mk λ a=>kFrz.lst .head ?_
     k_all
     refine kSet.str .head ?_ ?_
     · induction rv with
       | none=>exact Nat.le_trans hkl (by decide)
       | some x=>exact Nat.le_trans (mPut_len' _ _ _) (by exact Nat.lt_of_le_of_lt (by assumption) (by decide))
     k_all
     exact kP.nx ⟨rfl,rv,some (.lst [.int 1,.int 2,.int 3,.int (4+(d4:Int))]),_,_,rfl,by lia,hg4,hrv,⟨λ x e=>by f_shut e;exact crop_flat _⟩⟩
   · intro v o h
     refine WS.nil (kFin.no ?_)
     exact kFin.of h
theorem pen_ok (W:Wd) (own:Ow) {l:Addr} {us:List Value} {o:Obj} {ns:List Int} (hgr:(l,o)∈W.gr) (hls:∀h:Heap,h.get? l=some o->h.IsList l us.toArray) (hm:MAll W.w [] us (ns.map .int)) (hz:ns.length<=63) :
 Tl W false 586 6 [.ptr l] own (λ m o=>∃P C ns',m = .ptr P/\o=OwP [] P C ns' 0 0 own/\ns'.length<=40):=by
 ctx_has W own l us o ns
 ktr_call [("script",false)] enter
 k_all
 refine WE.lst ?_
 refine WA.cons ?_
 refine WE.compN ?_
 refine WE.frz ?_
 k_all
 refine kSlTo.mk (i:=40) (.g hgr hls hm) (by rw [length_map];exact Nat.le_trans (by assumption) (by decide)) λ a1=>?_
 refine kFrz.lst .head ?_
 rw [←List.map_take]
 have hl4:(ns.take 40).length<=40:=by rw [length_take];lia
 generalize ns.take 40=zs at hl4 ⊢
 refine kComp.lst (λ i ys o=>ys=(zs.take i).map .int/\o=own) .nil ⟨rfl,rfl⟩ ?_ ?_ (by rw [length_map];exact Nat.le_trans (by assumption) (by decide))
 · intro c' i mv ys o1 hi hQ1;refine EV0_0 hQ1 ?_;clear hQ1 ys o1
   refine map_at hi λ z hz2=>?_;clear hi mv
   k_all
   refine WE.ty1 ?_ cls_int (by kernel_rfl) (by decide+kernel)
   k_all
   refine kF1.intI ?_
   k_all
   exact ⟨by rw [take_snoc' hz2];simp,rfl⟩
 · intro ys o1 hQ2;refine EV0_0 hQ2 ?_;clear hQ2 ys o1;intro C
   rw [length_map,take_length]
   k_all
   refine kLst.mk λ P=>?_
   exact kFin.of (own₀:=[]) (vals:=[]) ⟨P,C,zs,rfl,rfl,hl4⟩
section
variable {κ:Type} [DecidableEq κ]
set_option tactic.hygienic true in
theorem mGet_put (kvs:List (κ×MV)) (k:κ) (v:MV) (x:κ):mGet (mPut kvs k v) x=if x=k then some v else mGet kvs x:=by
 unfold mPut
 split
 · rename_i h
   induction kvs with
   | nil=>f_shut h
   | cons p r ih =>
    by_cases e:p.1=k
    · by_cases hx:x=k
      · subst hx;simp [mGet,e]
      · have e2:¬ k=x:=λ q=>hx q.symm
        have key:∀l:List (κ×MV),mGet (l.map λ kv=>if kv.1=k then (kv.1,v) else kv) x=mGet l x:=by
         intro l
         induction l with
         | nil=>rfl
         | cons q t iht =>
          by_cases e3:q.1=k
          · simp [mGet,e3,e2] at iht ⊢;exact iht
          · by_cases e4:q.1=x
            · subst e4;simp [mGet,e3]
            · simp [mGet,e3,e4] at iht ⊢;exact iht
        rw [key,if_neg hx]
    · have h':(r.any λ kv=>kv.1=k)=true:=by simpa [e] using h
      by_cases hx:p.1=x
      · have:x≠k:=λ q=>e (hx.trans q)
        simp [mGet,e,hx,this]
      · have:=ih h'
        simp [mGet,e,hx] at this ⊢
        exact this
 · rename_i h
   have hn:∀p∈kvs,p.1≠k:=λ p hp q=>h (List.any_eq_true.mpr ⟨p,hp,by simpa using q⟩)
   clear h
   induction kvs with
   | nil =>
    by_cases hx:x=k
    · subst hx;simp [mGet]
    · have:¬ k=x:=λ q=>hx q.symm
      simp [mGet,hx,this]
   | cons p r ih =>
    have h1:=hn p (.head _)
    by_cases hx:p.1=x
    · have:x≠k:=λ q=>h1 (hx.trans q)
      simp [mGet,hx,this]
    · have:=ih λ q hq=>hn q (.tail _ hq)
      simp [mGet,hx] at this ⊢
      exact this
theorem mGet_pop (kvs:List (κ×MV)) (k x:κ):mGet (mPop kvs k) x=if x=k then none else mGet kvs x:=by
 unfold mPop
 induction kvs with
 | nil=>simp [mGet]
 | cons p r ih =>
  by_cases e:p.1=k
  · by_cases hx:x=k
    · rw [if_pos hx] at ih ⊢;simp [e] at ih ⊢;exact ih
    · have:¬ k=x:=λ q=>hx q.symm
      rw [if_neg hx] at ih ⊢
      simp [mGet,e,this] at ih ⊢;exact ih
  · by_cases hx:p.1=x
    · have:x≠k:=λ q=>e (hx.trans q)
      simp [mGet,e,hx,this]
    · simp [mGet,e,hx] at ih ⊢;exact ih
set_option tactic.hygienic true in
theorem mPut_keys (kvs:List (κ×MV)) (k:κ) (v:MV):(mPut kvs k v).map (·.1)=kvs.map (·.1)\/(k∉kvs.map (·.1)/\(mPut kvs k v).map (·.1)=kvs.map (·.1)++[k]):=by
 unfold mPut
 split
 · left;rw [map_map];refine List.map_congr_left λ p _=>?_
   simp only [Function.comp];split <;> rfl
 · rename_i h
   right
   refine ⟨λ hm=>?_,by simp⟩
   refine E1_2 (mem_map.mp hm) λ p hp e=>?_
   exact h (List.any_eq_true.mpr ⟨p,hp,by simpa using e⟩)
theorem mPut_mem {kvs:List (κ×MV)} {k:κ} {v:MV} {p:κ×MV} (h:p∈mPut kvs k v):p=(k,v)\/p∈kvs:=by
 unfold mPut at h
 split at h
 · refine E1_2 (mem_map.mp h) λ q hq e1_2=>?_;subst e1_2
   by_cases e:q.1=k
   · left;rw [if_pos e,e]
   · right;rw [if_neg e];exact hq
 · rcases mem_append.mp h with h | h
   · exact .inr h
   · exact .inl (mem_singleton.mp h)
theorem mPop_mem {kvs:List (κ×MV)} {k:κ} {p:κ×MV} (h:p∈mPop kvs k):p∈kvs:=(mem_filter.mp h).1
theorem mPut_nd {kvs:List (κ×MV)} {k:κ} {v:MV} (h:(kvs.map (λ zz=>zz.1)).Nodup):((mPut kvs k v).map (λ zz=>zz.1)).Nodup:=by
 rcases mPut_keys kvs k v with e | ⟨e,e2⟩
 · rw [e];exact h
 · rw [e2,nodup_append]
   exact ⟨h,by simp,λ a ha b hb=>by rw [mem_singleton.mp hb];exact λ q=>e (q ▸ ha)⟩
theorem mPop_nd {kvs:List (κ×MV)} {k:κ} (h:(kvs.map (λ zz=>zz.1)).Nodup):((mPop kvs k).map (λ zz=>zz.1)).Nodup:=h.sublist (List.Sublist.map _ List.filter_sublist)
end
theorem mGetD_put (kvs:Kvs) (k:Str) (v:MV) (x:Str):mGetD (mPut kvs k v) x=if x=k then v else mGetD kvs x:=by
 unfold mGetD;rw [mGet_put];split <;> rfl
theorem mGetD_pop (kvs:Kvs) (k x:Str):mGetD (mPop kvs k) x=if x=k then .none else mGetD kvs x:=by
 unfold mGetD;rw [mGet_pop];split <;> rfl
noncomputable abbrev kType:=Str.ofString "Type"
noncomputable abbrev kKids:=Str.ofString "Kids"
noncomputable abbrev kCount:=Str.ofString "Count"
noncomputable abbrev kParent:=Str.ofString "Parent"
noncomputable abbrev kN:=Str.ofString "N"
noncomputable abbrev kRot:=Str.ofString "Rotate"
noncomputable abbrev kCrop:=Str.ofString "CropBox"
noncomputable abbrev kMedia:=Str.ofString "MediaBox"
noncomputable abbrev kRes:=Str.ofString "Resources"
noncomputable abbrev kPages:=Str.ofString "Pages"
noncomputable def KEYS:List Str:=[kType,kKids,kCount,kParent,kN,kRot,kCrop,kMedia,kRes,kPages]
theorem nodup_len {α:Type} [DecidableEq α]:∀ {a b:List α},a.Nodup->(∀x∈a,x∈b)->a.length<=b.length
 | [],_,_,_=>Nat.zero_le _
 | x::r,b,h,hs=>by
  rw [nodup_cons] at h
  have q:=nodup_len (a:=r) (b:=b.erase x) h.2 λ y hy=>(List.mem_erase_of_ne λ e=>h.1 (by rw [←e];exact hy)).mpr (hs y (.tail _ hy))
  rw [List.length_erase_of_mem (hs x (.head _))] at q
  have:0 < b.length:=List.length_pos_of_mem (hs x (.head _))
  rw [length_cons];omega
structure GK (kvs:Kvs):Prop where
 nd:(kvs.map (λ zz=>zz.1)).Nodup
 keys:∀p∈kvs,p.1∈KEYS
 flat:∀p∈kvs,FlatV p.2
 inh:∀k∈INHS,NoRef (mGetD kvs k)
theorem GK.len {kvs:Kvs} (h:GK kvs):kvs.length<=10:=by
 have:=nodup_len h.nd (b:=KEYS) λ x hx=>by refine E1_2 (mem_map.mp hx) λ p hp e2_2=>?_;subst e2_2;exact h.keys p hp
 rw [length_map] at this;exact this
theorem GK.hd {kvs:Kvs} (h:GK kvs):HdOk kvs:=⟨h.inh,Nat.le_trans h.len (by decide)⟩
theorem GK.nil:GK []:=⟨List.Pairwise.nil,λ zz h=>(nomatch h),λ zz h=>(nomatch h),λ zz zz=>NoRef.none⟩
set_option tactic.hygienic true in
theorem GK.put {kvs:Kvs} (h:GK kvs) {k:Str} {v:MV} (hk:k∈KEYS) (hv:FlatV v) (hi:k∈INHS->NoRef v):GK (mPut kvs k v):=by
 refine ⟨mPut_nd h.nd,λ p hp=>?_,λ p hp=>?_,λ x hx=>?_⟩
 · rcases mPut_mem hp with rfl | hp
   · exact hk
   · exact h.keys p hp
 · rcases mPut_mem hp with rfl | hp
   · exact hv
   · exact h.flat p hp
 · rw [mGetD_put];split
   · rename_i e;exact hi (e ▸ hx)
   · exact h.inh x hx
theorem GK.pop {kvs:Kvs} (h:GK kvs) (k:Str):GK (mPop kvs k):=by
 refine ⟨mPop_nd h.nd,λ p hp=>h.keys p (mPop_mem hp),λ p hp=>h.flat p (mPop_mem hp),λ x hx=>?_⟩
 rw [mGetD_pop];split
 · exact .none
 · exact h.inh x hx
theorem GK.flatAt {kvs:Kvs} (h:GK kvs) {k:Str} {v:MV} (e:mGet kvs k=some v):FlatV v:=by
 unfold mGet at e
 refine E1_2 (Option.map_eq_some_iff.mp e) λ p hp e3_2=>?_;subst e3_2
 exact h.flat p (mem_of_find?_eq_some hp)
theorem GK.none {kvs:Kvs} (h:GK kvs) {k:Str} (e:mGetD kvs k = .none):mGet kvs k=none:=by
 cases q:mGet kvs k with
 | none=>rfl
 | some v=>rw [mGetD,q] at e;exact absurd e (h.flatAt q).ne
set_option tactic.hygienic true in
theorem turn1_get (f:Kvs) (p:Str×MV) (x:Str):mGetD (turn1 f p) x=if x=p.1 then p.2 else mGetD f x:=by
 unfold turn1
 split
 · rename_i e;rw [mGetD_pop,e]
 · rw [mGetD_put]
set_option tactic.hygienic true in
theorem GK.turn1 {f:Kvs} (h:GK f) {p:Str×MV} (hk:p.1∈KEYS) (hv:p.2 = .none\/FlatV p.2) (hi:p.1∈INHS->NoRef p.2):GK (Mine.turn1 f p):=by
 unfold Mine.turn1
 split
 · exact h.pop _
 · rename_i e
   refine h.put hk (hv.resolve_left λ q=>?_) hi
   exact e q
noncomputable def pick:MV->MV->MV
 | .none,b=>b
 | a,_=>a
theorem pick_none (b:MV):pick .none b=b:=rfl
theorem pick_some {a:MV} (h:a≠.none) (b:MV):pick a b=a:=by unfold pick;split <;> simp_all
set_option tactic.hygienic true in
theorem given1_get (kvs g:Kvs) (k x:Str):mGetD (given1 kvs g k) x=if x=k then pick (mGetD kvs k) (mGetD g k) else mGetD g x:=by
 unfold given1
 split
 · rename_i e;rw [e,pick_none];split
   · rename_i q;rw [q]
   · rfl
 · rename_i e;rw [mGetD_put,pick_some (λ q=>e q)]
theorem foldl_given_get (kvs:Kvs):∀ (ks:List Str) (g:Kvs) (x:Str),ks.Nodup->mGetD (ks.foldl (given1 kvs) g) x=if x∈ks then pick (mGetD kvs x) (mGetD g x) else mGetD g x
 | [],g,x,_=>by trivial
 | k::r,g,x,h=>by
  rw [nodup_cons] at h
  rw [foldl_cons,foldl_given_get kvs r _ x h.2,given1_get]
  by_cases e:x=k
  · subst e;simp_all
  · simp [e]
theorem INHS_nd:INHS.Nodup:=by decide+kernel
theorem INHS_keys:∀k∈INHS,k∈KEYS:=by decide+kernel
theorem givenF_get (inh kvs:Kvs) (x:Str):mGetD (givenF inh kvs) x=if x∈INHS then pick (mGetD kvs x) (mGetD inh x) else mGetD inh x:=foldl_given_get kvs INHS inh x INHS_nd
set_option tactic.hygienic true in
theorem field1_get (kvs inh f:Kvs) (k x:Str) (hf:mGetD f k=mGetD kvs k):mGetD (field1 kvs inh f k) x=if x=k then pick (mGetD kvs k) (mGetD inh k) else mGetD f x:=by
 ctx_has kvs inh f k x
 by_cases h:mGetD kvs k = .none
 · cases e:mGet inh k with
   | none =>
    rw [field1_no e,h,pick_none]
    split
    · rename_i q;rw [q,hf,h,mGetD,e];rfl
    · rfl
   | some v =>
    rw [field1_some e h,mGetD_put,h,pick_none]
    split
    · rw [mGetD,e];rfl
    · rfl
 · rw [field1_has h,pick_some h]
   split
   · rename_i q;rw [q,hf]
   · rfl
theorem foldl_field_get (kvs inh:Kvs):∀ (ks:List Str) (f:Kvs) (x:Str),ks.Nodup->(∀k∈ks,mGetD f k=mGetD kvs k)->mGetD (ks.foldl (field1 kvs inh) f) x=if x∈ks then pick (mGetD kvs x) (mGetD inh x) else mGetD f x
 | [],f,x,_,_=>by trivial
 | k::r,f,x,h,hf=>by
  rw [nodup_cons] at h
  have h1:=hf k (.head _)
  rw [foldl_cons,foldl_field_get kvs inh r _ x h.2 λ y hy=>by
   rw [field1_get _ _ _ _ _ h1,if_neg λ e=>h.1 (by rw [←e];exact hy)];exact hf y (.tail _ hy)]
  rw [field1_get _ _ _ _ _ h1]
  by_cases e:x=k
  · subst e;simp [h.1]
  · simp [e]
theorem fieldsF_get (kvs inh:Kvs) (x:Str):mGetD (fieldsF kvs inh) x=if x∈INHS then pick (mGetD kvs x) (mGetD inh x) else mGetD kvs x:=foldl_field_get kvs inh INHS kvs x INHS_nd λ zz zz=>rfl
structure InhOk (inh:Kvs):Prop where
 nd:(inh.map (λ zz=>zz.1)).Nodup
 keys:∀p∈inh,p.1∈INHS
 flat:∀p∈inh,FlatV p.2/\NoRef p.2
theorem InhOk.len {inh:Kvs} (h:InhOk inh):inh.length<=20:=by
 have:=nodup_len h.nd (b:=INHS) λ x hx=>by refine E1_2 (mem_map.mp hx) λ p hp e0_2=>?_;subst e0_2;exact h.keys p hp
 rw [length_map] at this;exact Nat.le_trans this (by decide)
theorem InhOk.nil:InhOk []:=⟨List.Pairwise.nil,λ zz h=>(nomatch h),λ zz h=>(nomatch h)⟩
theorem InhOk.put {inh:Kvs} (h:InhOk inh) {k:Str} {v:MV} (hk:k∈INHS) (hv:FlatV v) (hr:NoRef v):InhOk (mPut inh k v):=by
 refine ⟨mPut_nd h.nd,λ p hp=>?_,λ p hp=>?_⟩
 · rcases mPut_mem hp with rfl | hp
   · exact hk
   · exact h.keys p hp
 · rcases mPut_mem hp with rfl | hp
   · exact ⟨hv,hr⟩
   · exact h.flat p hp
theorem GK.flatD {kvs:Kvs} (h:GK kvs) {k:Str} (e:mGetD kvs k≠.none):FlatV (mGetD kvs k):=h.flatAt (mGetD_some e)
theorem InhOk.foldl {kvs:Kvs} (g:GK kvs):∀ (ks:List Str) (inh:Kvs),InhOk inh->(∀k∈ks,k∈INHS)->InhOk (ks.foldl (given1 kvs) inh)
 | [],_,h,_=>h
 | k::r,inh,h,hk=>by
  rw [foldl_cons]
  refine InhOk.foldl g r _ ?_ λ x hx=>hk x (.tail _ hx)
  by_cases e:mGetD kvs k = .none
  · rw [given1_none e];exact h
  · rw [given1_some e];exact h.put (hk k (.head _)) (g.flatD e) (g.inh k (hk k (.head _)))
theorem InhOk.given {inh kvs:Kvs} (h:InhOk inh) (g:GK kvs):InhOk (givenF inh kvs):=InhOk.foldl g INHS inh h λ zz h=>h
theorem InhOk.at {inh:Kvs} (h:InhOk inh) {k:Str} {v:MV} (e:mGet inh k=some v):FlatV v/\NoRef v:=by
 unfold mGet at e
 refine E1_2 (Option.map_eq_some_iff.mp e) λ p hp e1_2=>?_;subst e1_2
 exact h.flat p (mem_of_find?_eq_some hp)
set_option tactic.hygienic true in
theorem GK.foldf {kvs inh:Kvs} (h:InhOk inh):∀ (ks:List Str) (f:Kvs),GK f->(∀k∈ks,k∈INHS)->GK (ks.foldl (field1 kvs inh) f)
 | [],_,g,_=>g
 | k::r,f,g,hk=>by
  rw [foldl_cons]
  refine GK.foldf h r _ ?_ λ x hx=>hk x (.tail _ hx)
  unfold field1
  split
  · rename_i v e1 e2
    exact g.put (INHS_keys k (hk k (.head _))) (h.at e1).1 λ _=>(h.at e1).2
  · exact g
theorem GK.fields {kvs inh:Kvs} (g:GK kvs) (h:InhOk inh):GK (fieldsF kvs inh):=GK.foldf h INHS kvs g λ zz h=>h
theorem fldsOf_congr {a b:Kvs} (h:∀k∈FKEYS,mGetD a k=mGetD b k):fldsOf a=fldsOf b:=List.map_congr_left λ k hk=>by rw [h k hk]
set_option tactic.hygienic true in
theorem tGet_put (tab:List (Int×Kvs)) (n:Int) (kvs:Kvs) (x:Int):tGet (tPut tab n kvs) x=if x=n then some kvs else tGet tab x:=by
 ctx_has tab n kvs x
 unfold tPut
 split
 · rename_i h
   induction tab with
   | nil=>f_shut h
   | cons p r ih =>
    ctx_has p r
    by_cases e:p.1=n
    · by_cases hx:x=n
      · subst hx;simp [tGet,e]
      · have e2:¬ n=x:=λ q=>hx q.symm
        have key:∀l:List (Int×Kvs),tGet (l.map λ p=>if p.1=n then (p.1,kvs) else p) x=tGet l x:=by
         intro l
         ctx_has l
         induction l with
         | nil=>rfl
         | cons q t iht =>
          ctx_has q t
          by_cases e3:q.1=n
          · simp [tGet,e3,e2] at iht ⊢;exact iht
          · by_cases e4:q.1=x
            · subst e4;simp [tGet,e3]
            · simp [tGet,e3,e4] at iht ⊢;exact iht
        rw [key,if_neg hx]
    · have h':(r.any λ p=>p.1=n)=true:=by grind
      by_cases hx:p.1=x
      · have:x≠n:=λ q=>e (hx.trans q)
        simp [tGet,e,hx,this]
      · have:=ih h'
        simp [tGet,e,hx] at this ⊢
        exact this
 · rename_i h
   have hn:∀p∈tab,p.1≠n:=λ p hp q=>h (List.any_eq_true.mpr ⟨p,hp,by simpa using q⟩)
   clear h
   induction tab with
   | nil =>
    by_cases hx:x=n
    · subst hx;simp [tGet]
    · have:¬ n=x:=λ q=>hx q.symm
      simp [tGet,hx,this]
   | cons p r ih =>
    ctx_has p r
    have h1:=hn p (.head _)
    by_cases hx:p.1=x
    · have:x≠n:=λ q=>h1 (hx.trans q)
      simp [tGet,hx,this]
    · have:=ih λ q hq=>hn q (.tail _ hq)
      simp [tGet,hx] at this ⊢
      exact this
theorem tPut_keys {tab:List (Int×Kvs)} {n:Int} {kvs old:Kvs} (h:tGet tab n=some old):(tPut tab n kvs).map (λ zz=>zz.1)=tab.map (λ zz=>zz.1):=by
 unfold tPut
 rw [if_pos]
 · rw [map_map];refine List.map_congr_left λ p zz=>?_
   simp only [Function.comp];split <;> rfl
 · refine E1_2 (Option.map_eq_some_iff.mp h) λ p hp zz=>?_
   have q:=List.find?_some hp
   exact List.any_eq_true.mpr ⟨p,mem_of_find?_eq_some hp,q⟩
theorem tGet_app (tab:List (Int×Kvs)) (n:Int) (kvs:Kvs) (x:Int):tGet (tab++[(n,kvs)]) x=match tGet tab x with | some k=>some k | none=>if x=n then some kvs else none:=by
 ctx_has tab n kvs x
 unfold tGet
 rw [List.find?_append]
 cases h:tab.find? λ p=>p.1=x with
 | some p=>rfl
 | none =>
  by_cases e:x=n
  · subst e;simp
  · have:¬ n=x:=λ q=>e q.symm
    simp [e,this]
theorem tGet_mem {tab:List (Int×Kvs)} {n:Int} {kvs:Kvs} (h:tGet tab n=some kvs):(n,kvs)∈tab:=by
 refine E1_2 (Option.map_eq_some_iff.mp h) λ p hp e1_2=>?_;subst e1_2
 have:=List.find?_some hp
 have e:p.1=n:=by simpa using this
 subst e
 exact mem_of_find?_eq_some hp
theorem tGet_has {tab:List (Int×Kvs)} {n:Int} (h:n∈tab.map (λ zz=>zz.1)):∃kvs,tGet tab n=some kvs:=by
 cases e:tGet tab n with
 | some k=>exact ⟨k,rfl⟩
 | none =>
  refine E1_2 (mem_map.mp h) λ p hp e2_2=>?_;subst e2_2
  have:=List.find?_eq_none.mp (Option.map_eq_none_iff.mp e) p hp
  simp at this
theorem tGet_key {tab:List (Int×Kvs)} {n:Int} {kvs:Kvs} (h:tGet tab n=some kvs):n∈tab.map (λ zz=>zz.1):=mem_map.mpr ⟨_,tGet_mem h,rfl⟩
noncomputable def GT (tab:List (Int×Kvs)):Prop:=∀p∈tab,GK p.2
theorem GT.put {tab:List (Int×Kvs)} (h:GT tab) {n:Int} {kvs:Kvs} (g:GK kvs):GT (tPut tab n kvs):=by
 unfold tPut
 split
 · intro p hp
   refine E1_2 (mem_map.mp hp) λ q hq e3_2=>?_;subst e3_2
   split
   · exact g
   · exact h q hq
 · intro p hp
   rcases mem_append.mp hp with hp | hp
   · exact h p hp
   · rw [mem_singleton.mp hp];exact g
theorem GT.app {tab:List (Int×Kvs)} (h:GT tab) {n:Int} {kvs:Kvs} (g:GK kvs):GT (tab++[(n,kvs)]):=λ p hp=>(mem_append.mp hp).elim (h p) λ hp=>by rw [mem_singleton.mp hp];exact g
theorem GT.at {tab:List (Int×Kvs)} (h:GT tab) {n:Int} {kvs:Kvs} (e:tGet tab n=some kvs):GK kvs:=h _ (tGet_mem e)
inductive Fo where
 | nil
 | page (n:Int) (kv:Kvs) (r:Fo)
 | node (n:Int) (kv:Kvs) (ks r:Fo)
theorem neFo:Nonempty Fo:=⟨.nil⟩
namespace Fo
noncomputable def tops:Fo->List Int
 | nil=>[] | page n _ r=>n::r.tops | node n _ _ r=>n::r.tops
theorem tops_e:(Fo.tops Fo.nil=[])/\(∀ (n:Int) (kv:Kvs) (r:Fo),Fo.tops (Fo.page n kv r)=n::Fo.tops r)/\(∀ (n:Int) (kv:Kvs) (ks r:Fo),Fo.tops (Fo.node n kv ks r)=n::Fo.tops r):=⟨by intros;rfl,by intros;rfl,by intros;rfl⟩
noncomputable def nums:Fo->List Int
 | nil=>[] | page n _ r=>n::r.nums | node n _ ks r=>n::(ks.nums++r.nums)
theorem nums_e:(Fo.nums Fo.nil=[])/\(∀ (n:Int) (kv:Kvs) (r:Fo),Fo.nums (Fo.page n kv r)=n::Fo.nums r)/\(∀ (n:Int) (kv:Kvs) (ks r:Fo),Fo.nums (Fo.node n kv ks r)=n::(Fo.nums ks++Fo.nums r)):=⟨by intros;rfl,by intros;rfl,by intros;rfl⟩
noncomputable def pgs:Fo->List Int
 | nil=>[] | page n _ r=>n::r.pgs | node _ _ ks r=>ks.pgs++r.pgs
theorem pgs_e:(Fo.pgs Fo.nil=[])/\(∀ (n:Int) (kv:Kvs) (r:Fo),Fo.pgs (Fo.page n kv r)=n::Fo.pgs r)/\(∀ (n:Int) (kv:Kvs) (ks r:Fo),Fo.pgs (Fo.node n kv ks r)=Fo.pgs ks++Fo.pgs r):=⟨by intros;rfl,by intros;rfl,by intros;rfl⟩
noncomputable def nl:Fo->Nat
 | nil=>0 | page _ _ r=>r.nl+1 | node _ _ ks r=>ks.nl+r.nl
theorem nl_e:(Fo.nl Fo.nil=0)/\(∀ (n:Int) (kv:Kvs) (r:Fo),Fo.nl (Fo.page n kv r)=Fo.nl r+1)/\(∀ (n:Int) (kv:Kvs) (ks r:Fo),Fo.nl (Fo.node n kv ks r)=Fo.nl ks+Fo.nl r):=⟨by intros;rfl,by intros;rfl,by intros;rfl⟩
noncomputable def sp:List Int->Kvs->Fo->List SpR
 | _,_,nil=>[]
 | ab,inh,page n kv r=>⟨n,kv,ab,givenF inh kv,true⟩::sp ab inh r
 | ab,inh,node n kv ks r=>⟨n,kv,ab,givenF inh kv,false⟩::(sp (ab++[n]) (givenF inh kv) ks++sp ab inh r)
theorem sp_e:(∀ (x:List Int) (x_1:Kvs),Fo.sp x x_1 Fo.nil=[])/\(∀ (x:List Int) (x_1:Kvs) (n:Int) (kv:Kvs) (r:Fo),Fo.sp x x_1 (Fo.page n kv r)={n:=n,kvs:=kv,above:=x,inh:=givenF x_1 kv,pg:=Bool.true}::Fo.sp x x_1 r)/\(∀ (x:List Int) (x_1:Kvs) (n:Int) (kv:Kvs) (ks r:Fo),Fo.sp x x_1 (Fo.node n kv ks r)={n:=n,kvs:=kv,above:=x,inh:=givenF x_1 kv,pg:=Bool.false}::(Fo.sp (x++[n]) (givenF x_1 kv) ks++Fo.sp x x_1 r)):=⟨by intros;rfl,by intros;rfl,by intros;rfl⟩
noncomputable def fl:Kvs->Fo->List (Int×List MV)
 | _,nil=>[]
 | inh,page n kv r=>(n,fldsOf (fieldsF kv (givenF inh kv)))::fl inh r
 | inh,node _ kv ks r=>fl (givenF inh kv) ks++fl inh r
theorem fl_e:(∀ (x:Kvs),Fo.fl x Fo.nil=[])/\(∀ (x:Kvs) (n:Int) (kv:Kvs) (r:Fo),Fo.fl x (Fo.page n kv r)=(n,fldsOf (fieldsF kv (givenF x kv)))::Fo.fl x r)/\(∀ (x:Kvs) (n:Int) (kv:Kvs) (ks r:Fo),Fo.fl x (Fo.node n kv ks r)=Fo.fl (givenF x kv) ks++Fo.fl x r):=⟨by intros;rfl,by intros;rfl,by intros;rfl⟩
noncomputable def T (tab:List (Int×Kvs)):Fo->Prop
 | nil=>True
 | page n kv r=>tGet tab n=some kv/\GK kv/\mGetD kv kType=mName (Str.ofString "Page")/\mGetD kv kCount = .none/\T tab r
 | node n kv ks r=>tGet tab n=some kv/\GK kv/\mGetD kv kType=mName (Str.ofString "Pages")/\mGetD kv kKids=mRefs ks.tops/\T tab ks/\T tab r
theorem T_e:(∀ (tab:List (Int×Kvs)),Fo.T tab Fo.nil=True)/\(∀ (tab:List (Int×Kvs)) (n:Int) (kv:Kvs) (r:Fo),Fo.T tab (Fo.page n kv r)=(tGet tab n=Option.some kv/\GK kv/\mGetD kv kType=mName (PySem.Str.ofString "Page")/\mGetD kv kCount=MV.none/\Fo.T tab r))/\(∀ (tab:List (Int×Kvs)) (n:Int) (kv:Kvs) (ks r:Fo),Fo.T tab (Fo.node n kv ks r)=(tGet tab n=Option.some kv/\GK kv/\mGetD kv kType=mName (PySem.Str.ofString "Pages")/\mGetD kv kKids=mRefs (Fo.tops ks)/\Fo.T tab ks/\Fo.T tab r)):=⟨by intros;rfl,by intros;rfl,by intros;rfl⟩
theorem pgs_nl:∀f:Fo,f.pgs.length=f.nl
 | nil=>rfl
 | page _ _ r=>by simp [pgs_e,nl_e,pgs_nl r]
 | node _ _ ks r=>by simp [pgs_e,nl_e,pgs_nl ks,pgs_nl r]
theorem pgs_sub:∀f:Fo,∀x∈f.pgs,x∈f.nums
 | nil,_,h=>h
 | page n _ r,x,h=>by
  rcases mem_cons.mp h with rfl | h
  · exact .head _
  · exact .tail _ (pgs_sub r x h)
 | node n _ ks r,x,h=>by
  refine .tail _ ?_
  rcases mem_append.mp h with h | h
  · exact mem_append_left _ (pgs_sub ks x h)
  · exact mem_append_right _ (pgs_sub r x h)
theorem tops_sub:∀f:Fo,∀x∈f.tops,x∈f.nums
 | nil,_,h=>h
 | page n _ r,x,h=>by
  rcases mem_cons.mp h with rfl | h
  · exact .head _
  · exact .tail _ (tops_sub r x h)
 | node n _ ks r,x,h=>by
  rcases mem_cons.mp h with rfl | h
  · exact .head _
  · exact .tail _ (mem_append_right _ (tops_sub r x h))
theorem tops_len:∀f:Fo,f.tops.length<=f.nums.length
 | nil=>Nat.le_refl _
 | page _ _ r=>by have:=tops_len r;simp [tops_e,nums_e];omega
 | node _ _ ks r=>by have:=tops_len r;simp [tops_e,nums_e];lia
theorem sp_nums:∀ (f:Fo) (ab:List Int) (inh:Kvs),(sp ab inh f).map (λ zz=>zz.n)=f.nums
 | nil,_,_=>rfl
 | page n _ r,ab,inh=>by simp [sp_e,nums_e,sp_nums r]
 | node n kv ks r,ab,inh=>by simp [sp_e,nums_e,sp_nums ks,sp_nums r]
theorem sp_fl:∀ (f:Fo) (ab:List Int) (inh:Kvs),((sp ab inh f).filter (λ zz=>zz.pg)).map (λ s=>(s.n,fldsOf (fieldsF s.kvs s.inh)))=fl inh f
 | nil,_,_=>rfl
 | page n _ r,ab,inh=>by simp [sp_e,fl_e,← sp_fl r ab inh]
 | node n kv ks r,ab,inh=>by simp [sp,fl,← sp_fl r ab inh,← sp_fl ks (ab++[n]) (givenF inh kv)]
theorem fl_pgs:∀ (f:Fo) (inh:Kvs),(fl inh f).map (λ zz=>zz.1)=f.pgs
 | nil,_=>rfl
 | page n _ r,inh=>by simp [fl_e,pgs_e,fl_pgs r]
 | node n kv ks r,inh=>by simp [fl_e,pgs_e,fl_pgs ks,fl_pgs r]
theorem T.congr {tab tab':List (Int×Kvs)} {f:Fo} (t:T tab f) (h:∀x∈f.nums,tGet tab' x=tGet tab x):T tab' f:=by
 induction f with
 | nil=>trivial
 | page n zz r ih=>exact E0_5 t λ a b c d e=>⟨(h n (.head _)).trans a,b,c,d,ih e λ x hx=>h x (.tail _ hx)⟩
 | node n kv ks r ik ih=>exact E0_6 t λ a b c d e f=>⟨(h n (.head _)).trans a,b,c,d,ik e λ x hx=>h x (.tail _ (mem_append_left _ hx)),ih f λ x hx=>h x (.tail _ (mem_append_right _ hx))⟩
theorem run {tab:List (Int×Kvs)} (f:Fo):∀ (ab:List Int) (inh:Kvs) (st:List Ent) (out:List SpR),T tab f->InhOk inh->ab.length+f.nums.length<=60->Run tab st out->Run tab (f.tops.map (λ k=>(k,ab,inh))++st) (sp ab inh f++out):=by
 induction f with
 | nil=>exact λ zz zz zz zz zz zz zz h=>h
 | page n kv r ih =>
  intro ab inh st out t hi hl h
  have hl':ab.length+(r.nums.length+1)<=60:=hl
  exact E0_5 t λ a b c d e=>Run.page a b.hd c hi.len (by lia) (ih ab inh st out e hi (by exact Nat.le_of_lt (by assumption)) h)
 | node n kv ks r ik ih =>
  intro ab inh st out t hi hl h
  refine E0_6 t λ a b c d e g=>?_
  have hl':ab.length+((ks.nums++r.nums).length+1)<=60:=hl
  rw [length_append] at hl'
  have q:=ih ab inh st out g hi (by lia) h
  have q2:=ik (ab++[n]) (givenF inh kv) _ _ e (hi.given b) (by rw [length_append];simp only [length_cons,length_nil];lia) q
  have ht:=tops_len ks
  refine Run.node a b.hd c hi.len (by lia) (by lia) d ?_
  have e3:(sp (ab++[n]) (givenF inh kv) ks++sp ab inh r).append out=sp (ab++[n]) (givenF inh kv) ks++(sp ab inh r++out):=append_assoc ..
  rw [e3]
  exact q2
theorem sp_all {tab:List (Int×Kvs)} (f:Fo):∀ (ab:List Int) (inh:Kvs),T tab f->InhOk inh->∀s∈sp ab inh f,GK s.kvs/\InhOk s.inh/\(∀k,mGetD s.inh k=if k∈INHS then pick (mGetD s.kvs k) (mGetD s.inh k) else mGetD s.inh k):=by
 have pk:∀ {kv inh:Kvs} (k:Str),mGetD (givenF inh kv) k=if k∈INHS then pick (mGetD kv k) (mGetD (givenF inh kv) k) else mGetD (givenF inh kv) k:=λ {kv inh} k=>by
  simp only [givenF_get]
  split
  · cases hk:mGetD kv k <;> rfl
  · rfl
 induction f with
 | nil=>exact λ zz zz zz zz zz h=>absurd h not_mem_nil
 | page n kv r ih =>
  intro ab inh t hi s h
  refine E0_5 t λ a b c d e=>?_
  rcases mem_cons.mp h with rfl | h
  · exact ⟨b,hi.given b,pk⟩
  · exact ih ab inh e hi s h
 | node n kv ks r ik ih =>
  intro ab inh t hi s h
  refine E0_6 t λ a b c d e g=>?_
  rcases mem_cons.mp h with rfl | h
  · exact ⟨b,hi.given b,pk⟩
  · rcases mem_append.mp h with h | h
    · exact ik _ _ e (hi.given b) s h
    · exact ih ab inh g hi s h
theorem sp_above:∀ (f:Fo) (ab:List Int) (inh:Kvs),∀s∈sp ab inh f,∃q,s.above=ab++q/\(∀a∈q,a∈f.nums)/\q.length < f.nums.length
 | nil,_,_,_,h=>nomatch h
 | page n kv r,ab,inh,s,h=>by
  rcases mem_cons.mp h with rfl | h
  · exact ⟨[],(append_nil _).symm,λ zz h=>(nomatch h),by simp [nums_e]⟩
  · refine E1_3 (sp_above r ab inh s h) λ q h1 h2 h3=>?_
    exact ⟨q,h1,λ a ha=>.tail _ (h2 a ha),by simp [nums_e];lia⟩
 | node n kv ks r,ab,inh,s,h=>by
  rcases mem_cons.mp h with rfl | h
  · exact ⟨[],(append_nil _).symm,λ zz h=>(nomatch h),by simp [nums_e]⟩
  · rcases mem_append.mp h with h | h
    · refine E1_3 (sp_above ks _ _ s h) λ q h1 h2 h3=>?_
      refine ⟨n::q,by rw [h1,append_assoc];rfl,λ a ha=>?_,by simp [nums_e];lia⟩
      rcases mem_cons.mp ha with rfl | ha
      · exact .head _
      · exact .tail _ (mem_append_left _ (h2 a ha))
    · refine E1_3 (sp_above r ab inh s h) λ q h1 h2 h3=>?_
      exact ⟨q,h1,λ a ha=>.tail _ (mem_append_right _ (h2 a ha)),by simp [nums_e];lia⟩
end Fo
theorem cGet_bump (c:List (Int×Int)) (a x:Int):cGet (bump c a) x=(cGet c x).map λ i=>if x=a then i+1 else i:=by
 ctx_has c a x
 unfold cGet bump
 induction c with
 | nil=>rfl
 | cons p r ih =>
  ctx_has p r
  by_cases e:p.1=x
  · by_cases h:p.1=a
    · have:x=a:=e.symm.trans h
      subst this;simp [e]
    · have:¬ x=a:=λ q=>h (e.trans q)
      simp [e,this]
  · by_cases h:p.1=a
    · have h3:¬ a=x:=λ q=>e (h.trans q)
      simp only [map_cons,h,if_true,List.find?_cons,h3,decide_false]
      rw [ih]
    · simp only [map_cons,h,if_false,List.find?_cons,e,decide_false]
      exact ih
theorem cGet_bumps:∀ (l:List Int) (c:List (Int×Int)) (x:Int),cGet (l.foldl bump c) x=(cGet c x).map λ i:Int=>i+((l.count x:Nat):Int)
 | [],c,x=>by cases h:cGet c x <;> simp [h]
 | a::r,c,x=>by
  rw [foldl_cons,cGet_bumps r,cGet_bump]
  cases h:cGet c x with
  | none=>rfl
  | some i =>
   by_cases e:x=a
   · subst e;simp;simp+arith
   · have:¬ a=x:=λ q=>e q.symm
     simp [e,this]
noncomputable def su (out:List SpR) (x:Int):Nat:=match out with | []=>0 | s::r=>(if s.pg then s.above.count x else 0)+su r x
theorem su_e:(∀ (x:Int),su [] x=0)/\(∀ (x:Int) (s:SpR) (r:List SpR),su (s::r) x=(if SpR.pg s=Bool.true then List.count x (SpR.above s) else 0)+su r x):=⟨by intros;rfl,by intros;rfl⟩
noncomputable def pv (out:List SpR) (x:Int):Nat:=match out with | []=>0 | s::r=>if s.n=x then (if s.pg then 1 else 0) else pv r x
theorem pv_e:(∀ (x:Int),pv [] x=0)/\(∀ (x:Int) (s:SpR) (r:List SpR),pv (s::r) x=if SpR.n s=x then if SpR.pg s=Bool.true then 1 else 0 else pv r x):=⟨by intros;rfl,by intros;rfl⟩
theorem cGet_cnt1s:∀ (out:List SpR) (c:List (Int×Int)) (x:Int),cGet (out.foldl cnt1 c) x=(cGet c x).map λ i:Int=>i+((su out x:Nat):Int)
 | [],c,x=>by cases h:cGet c x <;> simp [h,su_e]
 | s::r,c,x=>by
  rw [foldl_cons,cGet_cnt1s r]
  unfold cnt1
  cases hp:s.pg
  · simp [su_e,hp]
  · simp only [if_true]
    rw [cGet_bumps]
    cases h:cGet c x with
    | none=>rfl
    | some i=>simp [su_e,hp];simp+arith
theorem cGet_cnt0:∀ (out:List SpR) (x:Int),x∈out.map (λ zz=>zz.n)->cGet (cnt0 out) x=some (pv out x:Int)
 | [],x,h=>nomatch h
 | s::r,x,h=>by
  by_cases e:s.n=x
  · cases hp:s.pg <;> simp [cGet,cnt0,pv_e,e,hp]
  · have h':x∈r.map (λ zz=>zz.n):=(mem_cons.mp h).resolve_left λ q=>e q.symm
    have:=cGet_cnt0 r x h'
    simp [cGet,cnt0,pv_e,e] at this ⊢
    exact this
theorem counts_get {out:List SpR} {x:Int} (h:x∈out.map (λ zz=>zz.n)):cGet (countsF out) x=some (((pv out x+su out x:Nat)):Int):=by
 unfold countsF
 rw [cGet_cnt1s,cGet_cnt0 out x h]
 simp
theorem su_app (a b:List SpR) (x:Int):su (a++b) x=su a x+su b x:=by
 induction a with
 | nil=>simp [su_e]
 | cons s r ih=>simp [su_e,ih];simp+arith
theorem pv_app (a b:List SpR) (x:Int) (h:x∉a.map (λ zz=>zz.n)):pv (a++b) x=pv b x:=by
 induction a with
 | nil=>rfl
 | cons s r ih =>
  have h1:¬ s.n=x:=λ e=>h (by rw [map_cons,← e];exact .head _)
  have h2:x∉r.map (λ zz=>zz.n):=λ e=>h (List.mem_cons_of_mem _ e)
  simp [pv_e,h1,ih h2]
theorem pv_app1 (a b:List SpR) (x:Int) (h:x∈a.map (λ zz=>zz.n)):pv (a++b) x=pv a x:=by
 induction a with
 | nil=>f_shut h
 | cons s r ih =>
  by_cases e:s.n=x
  · simp [pv_e,e]
  · have h2:x∈r.map (λ zz=>zz.n):=(mem_cons.mp h).resolve_left λ q=>e q.symm
    simp [pv_e,e,ih h2]
namespace Fo
theorem su_out:∀ (f:Fo) (ab:List Int) (inh:Kvs) (x:Int),x∉f.nums->su (sp ab inh f) x=ab.count x * f.nl
 | nil,_,_,_,_=>by trivial
 | page n kv r,ab,inh,x,h=>by
  have h2:x∉r.nums:=λ q=>h (.tail _ q)
  simp [sp_e,su_e,nl_e,su_out r ab inh x h2,Nat.mul_add];simp+arith
 | node n kv ks r,ab,inh,x,h=>by
  have h2:x∉r.nums:=λ q=>h (.tail _ (mem_append_right _ q))
  have h3:x∉ks.nums:=λ q=>h (.tail _ (mem_append_left _ q))
  have h4:¬ n=x:=λ q=>h (by rw [←q];exact .head _)
  simp [sp_e,su_e,nl_e,su_app,su_out r ab inh x h2,su_out ks _ _ x h3,h4,Nat.mul_add]
noncomputable def C (c:Int->Option Int):Fo->Prop
 | nil=>True
 | page n zz r=>c n=some 1/\C c r
 | node n zz ks r=>c n=some (ks.nl:Int)/\C c ks/\C c r
theorem c_of:∀ (f:Fo) (ab:List Int) (inh:Kvs) (c:Int->Option Int),f.nums.Nodup->(∀x∈f.nums,x∉ab)->(∀x∈f.nums,c x=some ((pv (sp ab inh f) x+su (sp ab inh f) x:Nat):Int))->C c f
 | nil,_,_,_,_,_,_=>trivial
 | page n kv r,ab,inh,c,hn,ha,hc=>by
  have hn2:=(nodup_cons.mp hn)
  have e0:ab.count n=0:=List.count_eq_zero.mpr (ha n (.head _))
  refine ⟨?_,c_of r ab inh c hn2.2 (λ x hx=>ha x (.tail _ hx)) λ x hx=>?_⟩
  · rw [hc n (.head _)]
    simp [sp_e,pv_e,su_e,e0,su_out r ab inh n hn2.1]
  · have hne:¬ n=x:=λ e=>hn2.1 (e ▸ hx)
    have e1:ab.count x=0:=List.count_eq_zero.mpr (ha x (.tail _ hx))
    rw [hc x (.tail _ hx)]
    simp [sp_e,pv_e,su_e,hne,e1]
 | node n kv ks r,ab,inh,c,hn,ha,hc=>by
  have hn2:=(nodup_cons.mp hn)
  refine E0_3 (nodup_append.mp hn2.2) λ hk hr hkr=>?_
  have nk:n∉ks.nums:=λ q=>hn2.1 (mem_append_left _ q)
  have nr:n∉r.nums:=λ q=>hn2.1 (mem_append_right _ q)
  have e0:ab.count n=0:=List.count_eq_zero.mpr (ha n (.head _))
  refine ⟨?_,c_of ks (ab++[n]) (givenF inh kv) c hk (λ x hx=>?_) λ x hx=>?_,c_of r ab inh c hr (λ x hx=>ha x (.tail _ (mem_append_right _ hx))) λ x hx=>?_⟩
  · rw [hc n (.head _)]
    simp [sp_e,pv_e,su_e,su_app,su_out r ab inh n nr,su_out ks _ _ n nk,e0]
  · intro q
    rcases mem_append.mp q with q | q
    · exact ha x (.tail _ (mem_append_left _ hx)) q
    · exact nk (mem_singleton.mp q ▸ hx)
  · have hne:¬ n=x:=λ e=>nk (e ▸ hx)
    have e1:ab.count x=0:=List.count_eq_zero.mpr (ha x (.tail _ (mem_append_left _ hx)))
    have hxr:x∉r.nums:=λ q=>hkr x hx x q rfl
    rw [hc x (.tail _ (mem_append_left _ hx))]
    have e2:=pv_app1 (sp (ab++[n]) (givenF inh kv) ks) (sp ab inh r) x (by rw [sp_nums];exact hx)
    simp [sp_e,pv_e,su_e,su_app,hne,e1,e2,su_out r ab inh x hxr]
  · have hne:¬ n=x:=λ e=>nr (e ▸ hx)
    have e1:ab.count x=0:=List.count_eq_zero.mpr (ha x (.tail _ (mem_append_right _ hx)))
    have hxk:x∉ks.nums:=λ q=>hkr x q x hx rfl
    rw [hc x (.tail _ (mem_append_right _ hx))]
    have e2:=pv_app (sp (ab++[n]) (givenF inh kv) ks) (sp ab inh r) x (by rw [sp_nums];exact hxk)
    have e3:(ab++[n]).count x=0:=by rw [List.count_append,e1];simp [hne]
    simp [sp_e,pv_e,su_e,su_app,hne,e2,su_out ks _ _ x hxk,e3]
theorem counts (f:Fo) (hn:f.nums.Nodup):C (cGet (countsF (sp [] [] f))) f :=
 c_of f [] [] _ hn (λ zz zz h=>nomatch h) λ x hx=>counts_get (by rw [sp_nums];exact hx)
end Fo
noncomputable def parMV:Option Int->MV | none=>.none | some p=>mRef p
noncomputable def ParPre:Option Int->Kvs->Prop
 | none,kv=>mGet kv kParent=none
 | some _,kv=>mGet kv kParent=none\/∃q,mGet kv kParent=some (mRef q)
noncomputable def CntPre (kv:Kvs):Prop:=mGetD kv kCount = .none\/∃i:Int,mGetD kv kCount = .int i/\0<=i
structure HR (par:Option Int) (pg:Bool) (c:Int) (kv kv':Kvs):Prop where
 gk:GK kv'
 same:∀k,k≠kParent->k≠kCount->mGetD kv' k=mGetD kv k
 par:mGetD kv' kParent=parMV par
 cnt:mGetD kv' kCount=if pg then .none else .int c
noncomputable def stK (s:SpR) (bp:Bool) (c:Int) (bc:Bool):Kvs:=if bp && bc then s.kvs else turnedF s.kvs (chg s bp c bc)
theorem parV_eq (s:SpR):parV s=parMV s.above.getLast?:=by unfold parV parMV;cases s.above.getLast? <;> rfl
theorem kPC:kParent≠kCount:=by decide+kernel
theorem turned_two (kv:Kvs) (a b:MV) (x:Str):mGetD (turnedF kv [(kParent,a),(kCount,b)]) x=if x=kCount then b else if x=kParent then a else mGetD kv x:=by
 show mGetD (turn1 (turn1 kv (kParent,a)) (kCount,b)) x=_
 rw [turn1_get,turn1_get]
theorem turned_one (kv:Kvs) (k:Str) (a:MV) (x:Str):mGetD (turnedF kv [(k,a)]) x=if x=k then a else mGetD kv x:=by
 show mGetD (turn1 kv (k,a)) x=_
 rw [turn1_get]
theorem kp_in:kParent∈KEYS:=by decide+kernel
theorem kc_in:kCount∈KEYS:=by decide+kernel
theorem kp_ni:kParent∉INHS:=by decide+kernel
theorem kc_ni:kCount∉INHS:=by decide+kernel
theorem parMV_flat (p:Option Int):parMV p = .none\/FlatV (parMV p):=by cases p;exact .inl rfl;exact .inr (.ref _)
theorem head_stl (s:SpR) (g:GK s.kvs) (hp:ParPre s.above.getLast? s.kvs) (c:Int) (h1:s.pg=true->mGetD s.kvs kCount = .none) (h2:s.pg=false->CntPre s.kvs) :
 ∃bp bc,SpPar s bp/\SpCnt s c bc/\HR s.above.getLast? s.pg c s.kvs (stK s bp c bc):=by
 revert g hp;ctx_has s c
 obtain ⟨bp,hbp,hbv⟩:∃bp,SpPar s bp/\(bp=true->mGetD s.kvs kParent=parMV s.above.getLast?):=by
  cases e:s.above.getLast? with
  | none =>
   rw [e] at hp
   have ea:s.above=[]:=List.getLast?_eq_none_iff.mp e
   have e2:mGet s.kvs kParent=none:=hp
   exact ⟨true,.root ea e2,λ zz=>by rw [mGetD,e2];rfl⟩
  | some p =>
   rw [e] at hp
   obtain ⟨ab,ea⟩:∃ab,s.above=ab++[p]:=List.getLast?_eq_some_iff.mp e
   rcases hp with hp | ⟨q,hp⟩
   · exact ⟨false,.no ea hp,λ q=>by f_shut q⟩
   · refine ⟨_,.ref ea hp,λ hq=>?_⟩
     have:q=p:=by simpa using hq
     subst this
     rw [mGetD,hp];rfl
 ctx_has bp
 obtain ⟨bc,hbc,hcv,hpg⟩:∃bc,SpCnt s c bc/\(bc=true->mGetD s.kvs kCount=if s.pg then .none else .int c)/\(bc=false->s.pg=false):=by
  cases e:s.pg with
  | true=>exact ⟨true,.page e (h1 e),λ zz=>by simp [h1 e],λ q=>by f_shut q⟩
  | false =>
   rcases h2 e with hc | ⟨i,hc,hi⟩
   · exact ⟨false,.none e hc,(λ q=>by f_shut q),λ zz=>rfl⟩
   · refine ⟨_,.int e hc hi,λ hq=>?_,λ zz=>rfl⟩
     have:i=c:=by simpa using hq
     subst this
     trivial
 ctx_has bc
 refine ⟨bp,bc,hbp,hbc,?_⟩
 have pfl:=parMV_flat s.above.getLast?
 unfold stK chg
 rw [parV_eq]
 cases bp <;> cases bc <;> simp only [Bool.and_true,Bool.and_false,Bool.false_eq_true,if_true,if_false,append_nil,List.nil_append,cons_append]
 · refine ⟨?_,λ k e1 e2=>?_,?_,?_⟩
   · exact (g.turn1 (p:=(kParent,_)) kp_in pfl λ q=>absurd q kp_ni).turn1 (p:=(kCount,.int c)) kc_in (.inr (.int _)) λ q=>absurd q kc_ni
   · rw [turned_two,if_neg e2,if_neg e1]
   · rw [turned_two,if_neg kPC,if_pos rfl]
   · rw [turned_two,if_pos rfl,hpg rfl];rfl
 · refine ⟨?_,λ k e1 e2=>?_,?_,?_⟩
   · exact g.turn1 (p:=(kParent,_)) kp_in pfl λ q=>absurd q kp_ni
   · rw [turned_one,if_neg e1]
   · rw [turned_one,if_pos rfl]
   · rw [turned_one,if_neg (Ne.symm kPC),hcv rfl]
 · refine ⟨?_,λ k e1 e2=>?_,?_,?_⟩
   · exact g.turn1 (p:=(kCount,.int c)) kc_in (.inr (.int _)) λ q=>absurd q kc_ni
   · rw [turned_one,if_neg e2]
   · rw [turned_one,if_neg kPC,hbv rfl]
   · rw [turned_one,if_pos rfl,hpg rfl];rfl
 · exact ⟨g,λ zz zz zz=>rfl,hbv rfl,hcv rfl⟩
set_option tactic.hygienic true in
theorem stl1_get {tab:List (Int×Kvs)} {s:SpR} {bp:Bool} {c:Int} {bc:Bool} (h:tGet tab s.n=some s.kvs) (x:Int):tGet (stl1 tab s bp c bc) x=if x=s.n then some (stK s bp c bc) else tGet tab x:=by
 unfold stl1 stK
 split
 · split
   · rename_i e;rw [e];exact h
   · rfl
 · rw [tGet_put]
theorem stl1_keys {tab:List (Int×Kvs)} {s:SpR} {bp:Bool} {c:Int} {bc:Bool} (h:tGet tab s.n=some s.kvs):(stl1 tab s bp c bc).map (λ zz=>zz.1)=tab.map (λ zz=>zz.1):=by
 unfold stl1
 split
 · rfl
 · exact tPut_keys h
set_option tactic.hygienic true in
theorem stl1_gt {tab:List (Int×Kvs)} {s:SpR} {bp:Bool} {c:Int} {bc:Bool} (h:GT tab) (g:GK (stK s bp c bc)):GT (stl1 tab s bp c bc):=by
 unfold stl1 stK at *
 split
 · exact h
 · rename_i e;rw [if_neg e] at g;exact h.put g
theorem ParPre.of {kv:Kvs} {par:Option Int} (g:GK kv) (h:mGetD kv kParent=parMV par):ParPre par kv:=by
 induction par with
 | none=>exact g.none h
 | some p=>exact .inr ⟨p,by rw [mGetD_some (by rw [h];intro e;f_shut e),h];rfl⟩
namespace Fo
noncomputable def S0:Option Int->Fo->Prop
 | _,nil=>True
 | par,page _ kv r=>ParPre par kv/\S0 par r
 | par,node n kv ks r=>ParPre par kv/\CntPre kv/\S0 (some n) ks/\S0 par r
theorem S0_e:(∀ (x:Option Int),Fo.S0 x Fo.nil=True)/\(∀ (x:Option Int) (n:Int) (kv:Kvs) (r:Fo),Fo.S0 x (Fo.page n kv r)=(ParPre x kv/\Fo.S0 x r))/\(∀ (x:Option Int) (n:Int) (kv:Kvs) (ks r:Fo),Fo.S0 x (Fo.node n kv ks r)=(ParPre x kv/\CntPre kv/\Fo.S0 (Option.some n) ks/\Fo.S0 x r)):=⟨by intros;rfl,by intros;rfl,by intros;rfl⟩
noncomputable def G:Option Int->Fo->Prop
 | _,nil=>True
 | par,page _ kv r=>mGetD kv kParent=parMV par/\G par r
 | par,node n kv ks r=>mGetD kv kParent=parMV par/\mGetD kv kCount = .int ks.nl/\G (some n) ks/\G par r
inductive R:Option Int->Fo->Fo->Prop
 | nil {par}:R par Fo.nil Fo.nil
 | page {par n kv kv' r r'}:HR par true 0 kv kv'->R par r r'->R par (Fo.page n kv r) (Fo.page n kv' r')
 | node {par n kv kv' ks ks' r r'}:HR par false ks.nl kv kv'->R (some n) ks ks'->R par r r'->R par (Fo.node n kv ks r) (Fo.node n kv' ks' r')
noncomputable def R.I (par:Option Int) (f':Fo):Fo->Prop
 | Fo.nil=>f'=Fo.nil
 | Fo.page n kv r=>∃kv' r',f'=Fo.page n kv' r'/\HR par true 0 kv kv'/\R par r r'
 | Fo.node n kv ks r=>∃kv' ks' r',f'=Fo.node n kv' ks' r'/\HR par false ks.nl kv kv'/\R (some n) ks ks'/\R par r r'
theorem R.inv {f f':Fo} {par:Option Int} (h:R par f f'):R.I par f' f:=by
 induction h with
 | nil=>exact rfl
 | page a b zz=>exact ⟨_,_,rfl,a,b⟩
 | node a b c _ _=>exact ⟨_,_,_,rfl,a,b,c⟩
theorem R.tops {f f':Fo} {par:Option Int} (h:R par f f'):f'.tops=f.tops:=by
 induction h with
 | nil=>rfl
 | page _ _ ih=>exact congrArg (_ :: ·) ih
 | node _ _ _ _ ih=>exact congrArg (_ :: ·) ih
theorem R.nums {f f':Fo} {par:Option Int} (h:R par f f'):f'.nums=f.nums:=by
 induction h with
 | nil=>rfl
 | page _ _ ih=>exact congrArg (_ :: ·) ih
 | node _ _ _ i1 i2=>show _::(_++_)=_::(_++_);rw [i1,i2]
theorem R.pgs {f f':Fo} {par:Option Int} (h:R par f f'):f'.pgs=f.pgs:=by
 induction h with
 | nil=>rfl
 | page _ _ ih=>exact congrArg (_ :: ·) ih
 | node _ _ _ i1 i2=>show _++_=_++_;rw [i1,i2]
theorem R.nl {f f':Fo} {par:Option Int} (h:R par f f'):f'.nl=f.nl:=by rw [←pgs_nl,← pgs_nl,h.pgs]
theorem R.g {f f':Fo} {par:Option Int} (h:R par f f'):G par f':=by
 induction h with
 | nil=>trivial
 | page a zz ih=>exact ⟨a.par,ih⟩
 | node a b zz i1 i2=>exact ⟨a.par,by rw [a.cnt,b.nl];rfl,i1,i2⟩
theorem G.s0:∀ {f:Fo} {par:Option Int} {tab:List (Int×Kvs)},T tab f->G par f->S0 par f
 | nil,_,_,_,_=>trivial
 | page n kv r,par,_,t,h=>⟨ParPre.of t.2.1 h.1,G.s0 t.2.2.2.2 h.2⟩
 | node n kv ks r,par,_,t,h=>⟨ParPre.of t.2.1 h.1,.inr ⟨_,h.2.1,Int.natCast_nonneg _⟩,G.s0 t.2.2.2.2.1 h.2.2.1,G.s0 t.2.2.2.2.2 h.2.2.2⟩
theorem stl (cnt:List (Int×Int)) (f:Fo):∀ (ab:List Int) (inh:Kvs) (tab:List (Int×Kvs)),T tab f->f.nums.Nodup->S0 ab.getLast? f->C (cGet cnt) f->GT tab ->
 ∃tab' f',T tab' f'/\R ab.getLast? f f'/\(∀x,x∉f.nums->tGet tab' x=tGet tab x)/\tab'.map (λ zz=>zz.1)=tab.map (λ zz=>zz.1)/\GT tab'/\(∀rest tabF,Stl cnt tab' rest tabF->Stl cnt tab (sp ab inh f++rest) tabF):=by
 induction f with
 | nil=>exact λ zz zz tab zz zz zz zz gt=>⟨tab,nil,trivial,.nil,λ zz zz=>rfl,rfl,gt,λ zz zz h=>h⟩
 | page n kv r ih =>
  intro ab inh tab t hn s c gt
  refine E0_5 t λ t1 t2 t3 t4 t5=>s.elim λ s1 s2=>c.elim λ c1 c2=>?_
  have hn2:=nodup_cons.mp hn
  refine E2_3 (head_stl ⟨n,kv,ab,givenF inh kv,true⟩ t2 s1 1 (λ zz=>t4) λ e=>by cases e) λ bp bc p1 p2 p3=>?_
  have key:=λ x=>stl1_get (bp:=bp) (c:=1) (bc:=bc) (s:=⟨n,kv,ab,givenF inh kv,true⟩) t1 x
  refine E2_6 (ih ab inh (stl1 tab ⟨n,kv,ab,givenF inh kv,true⟩ bp 1 bc) (t5.congr λ x hx=>by
   rw [key,if_neg λ e=>hn2.1 (by rw [←show x=n from e];exact hx)]) hn2.2 s2 c2 (stl1_gt gt p3.gk)) λ tab' r' a1 a2 a3 a4 a5 a6=>?_
  refine ⟨tab',page n (stK ⟨n,kv,ab,givenF inh kv,true⟩ bp 1 bc) r',⟨?_,p3.gk,?_,p3.cnt,a1⟩,.page ⟨p3.gk,p3.same,p3.par,p3.cnt⟩ a2,λ x hx=>?_,?_,a5,λ rest tabF h=>?_⟩
  · rw [a3 n hn2.1,key,if_pos rfl]
  · rw [p3.same kType (by decide+kernel) (by decide+kernel)];exact t3
  · rw [a3 x λ q=>hx (.tail _ q),key,if_neg λ e=>hx (by rw [show x=n from e];exact .head _)]
  · rw [a4];exact stl1_keys (s:=⟨n,kv,ab,givenF inh kv,true⟩) t1
  · exact .cons p1 c1 p2 (a6 rest tabF h)
 | node n kv ks r ik ih =>
  intro ab inh tab t hn s c gt
  refine E0_6 t λ t1 t2 t3 t4 t5 t6=>E0_4 s λ s1 s2 s3 s4=>E0_3 c λ c1 c2 c3=>?_
  have hn2:=nodup_cons.mp hn
  refine E0_3 (nodup_append.mp hn2.2) λ hk hr hkr=>?_
  have nk:n∉ks.nums:=λ q=>hn2.1 (mem_append_left _ q)
  have nr:n∉r.nums:=λ q=>hn2.1 (mem_append_right _ q)
  refine E2_3 (head_stl ⟨n,kv,ab,givenF inh kv,false⟩ t2 s1 ks.nl (λ e=>by cases e) λ zz=>s2) λ bp bc p1 p2 p3=>?_
  have key:=λ x=>stl1_get (bp:=bp) (c:=ks.nl) (bc:=bc) (s:=⟨n,kv,ab,givenF inh kv,false⟩) t1 x
  have gl:(ab++[n]).getLast? = some n:=by simp
  refine E2_6 (ik (ab++[n]) (givenF inh kv) (stl1 tab ⟨n,kv,ab,givenF inh kv,false⟩ bp ks.nl bc) (t5.congr λ x hx=>by
   rw [key,if_neg λ e=>nk (by rw [←show x=n from e];exact hx)]) hk (by rw [gl];exact s3) c2 (stl1_gt gt p3.gk)) λ tab1 ks' a1 a2 a3 a4 a5 a6=>?_
  rw [gl] at a2
  refine E2_6 (ih ab inh tab1 (t6.congr λ x hx=>by
   rw [a3 x λ q=>hkr x q x hx rfl,key,if_neg λ e=>nr (by rw [←show x=n from e];exact hx)]) hr s4 c3 a5) λ tab2 r' b1 b2 b3 b4 b5 b6=>?_
  refine ⟨tab2,node n (stK ⟨n,kv,ab,givenF inh kv,false⟩ bp ks.nl bc) ks' r',⟨?_,p3.gk,?_,?_,a1.congr λ x hx=>?_,b1⟩,.node ⟨p3.gk,p3.same,p3.par,p3.cnt⟩ a2 b2,λ x hx=>?_,?_,b5,λ rest tabF h=>?_⟩
  · rw [b3 n nr,a3 n nk,key,if_pos rfl]
  · rw [p3.same kType (by decide+kernel) (by decide+kernel)];exact t3
  · rw [p3.same kKids (by decide+kernel) (by decide+kernel),a2.tops];exact t4
  · rw [a2.nums] at hx;exact b3 x λ q=>hkr x hx x q rfl
  · rw [b3 x λ q=>hx (.tail _ (mem_append_right _ q)),a3 x λ q=>hx (.tail _ (mem_append_left _ q)),key,if_neg λ e=>hx (by rw [show x=n from e];exact .head _)]
  · rw [b4,a4];exact stl1_keys (s:=⟨n,kv,ab,givenF inh kv,false⟩) t1
  · have:=b6 rest tabF h
    have:=a6 _ _ this
    rw [←append_assoc] at this
    exact .cons p1 c1 p2 this
end Fo
theorem given_congr {a b:Kvs} (h:∀k∈INHS,mGetD a k=mGetD b k) (inh:Kvs):givenF inh a=givenF inh b:=by
 have key:∀ (ks:List Str) (g:Kvs),(∀k∈ks,k∈INHS)->ks.foldl (given1 a) g=ks.foldl (given1 b) g:=by
  intro ks
  induction ks with
  | nil=>intro zz zz;rfl
  | cons k r ih =>
   intro g hk
   rw [foldl_cons,foldl_cons,ih _ λ x hx=>hk x (.tail _ hx)]
   have e:given1 a g k=given1 b g k:=by unfold given1;rw [h k (hk k (.head _))]
   rw [e]
 exact key INHS inh λ zz h=>h
theorem kk_in:kKids∈KEYS:=by decide+kernel
theorem kk_ni:kKids∉INHS:=by decide+kernel
theorem kK_T:kType≠kKids:=by decide+kernel
theorem kK_P:kParent≠kKids:=by decide+kernel
theorem kK_C:kCount≠kKids:=by decide+kernel
theorem refs_flat {l:List Int} (h:l.length<=60):FlatV (mRefs l):=.lst (λ v hv=>by refine E1_2 (mem_map.mp hv) λ n zz e0_2=>?_;subst e0_2;exact .ref n) (by rw [length_map];exact h)
noncomputable abbrev newK (kv:Kvs) (l:List Int):Kvs:=turnedF kv [(kKids,mRefs l)]
theorem newK_get (kv:Kvs) (l:List Int) (x:Str):mGetD (newK kv l) x=if x=kKids then mRefs l else mGetD kv x:=turned_one kv kKids _ x
theorem newK_gk {kv:Kvs} {l:List Int} (g:GK kv) (h:l.length<=60):GK (newK kv l):=g.turn1 (p:=(kKids,mRefs l)) kk_in (.inr (refs_flat h)) λ q=>absurd q kk_ni
theorem newK_inh (inh kv:Kvs) (l:List Int):givenF inh (newK kv l)=givenF inh kv:=given_congr (λ k hk=>by rw [newK_get,if_neg λ e:k=kKids=>kk_ni (by rw [←e];exact hk)]) inh
theorem newK_par {par:Option Int} {kv:Kvs} {l:List Int} (h:ParPre par kv):ParPre par (newK kv l):=by
 have e:mGet (newK kv l) kParent=mGet kv kParent:=by
  show mGet (mPut kv kKids (mRefs l)) kParent=_
  rw [mGet_put,if_neg kK_P]
 induction par with
 | none=>exact e.trans h
 | some p=>exact h.imp (λ q=>e.trans q) λ ⟨q,hq⟩=>⟨q,e.trans hq⟩
theorem newK_cnt {kv:Kvs} {l:List Int} (h:CntPre kv):CntPre (newK kv l):=by
 unfold CntPre at *;rw [newK_get,if_neg kK_C];exact h
namespace Fo
noncomputable def Full:Fo->Prop
 | nil=>True
 | page zz kv r=>mGet kv kKids=none/\Full r
 | node _ _ ks r=>0 < ks.nl/\Full ks/\Full r
theorem Full_e:(Fo.Full Fo.nil=True)/\(∀ (n:Int) (kv:Kvs) (r:Fo),Fo.Full (Fo.page n kv r)=(mGet kv kKids=Option.none/\Fo.Full r))/\(∀ (n:Int) (kv:Kvs) (ks r:Fo),Fo.Full (Fo.node n kv ks r)=(0 < Fo.nl ks/\Fo.Full ks/\Fo.Full r)):=⟨by intros;rfl,by intros;rfl,by intros;rfl⟩
theorem tops_nl:∀ {f:Fo},Full f->f.tops≠[]->0 < f.nl
 | nil,_,h=>absurd rfl h
 | page _ _ r,_,_=>Nat.succ_pos _
 | node _ _ ks r,h,_=>Nat.lt_of_lt_of_le h.1 (Nat.le_add_right _ _)
theorem nl_tops:∀ {f:Fo},0 < f.nl->f.tops≠[]
 | nil,h=>absurd h (Nat.lt_irrefl _)
 | page _ _ _,_=>List.cons_ne_nil _ _
 | node _ _ _ _,_=>List.cons_ne_nil _ _
theorem T_top {tab:List (Int×Kvs)}:∀ {f:Fo},T tab f->∀k∈f.tops,∃kv,tGet tab k=some kv
 | nil,_,_,h=>nomatch h
 | page n kv r,h,k,hk=>by
  rcases mem_cons.mp hk with rfl | hk
  · exact ⟨_,h.1⟩
  · exact T_top h.2.2.2.2 k hk
 | node n kv ks r,h,k,hk=>by
  rcases mem_cons.mp hk with rfl | hk
  · exact ⟨_,h.1⟩
  · exact T_top h.2.2.2.2.2 k hk
theorem fl_len (inh:Kvs) (f:Fo):(fl inh f).length=f.nl:=by rw [←pgs_nl,← fl_pgs f inh,length_map]
theorem fl_num {inh:Kvs} {f:Fo} {p:Int×List MV} (h:p∈fl inh f):p.1∈f.nums:=pgs_sub f _ (by rw [←fl_pgs f inh];exact mem_map.mpr ⟨p,h,rfl⟩)
theorem fl_out {inh:Kvs} {f:Fo} {x:Int} (h:x∉f.nums):(fl inh f).filter (λ p=>decide (p.1≠x))=fl inh f :=
 List.filter_eq_self.mpr λ p hp=>by simpa using λ e:p.1=x=>h (e ▸ fl_num hp)
theorem tops_out {f:Fo} {x:Int} (h:x∉f.nums):f.tops.filter (λ k=>decide (k≠x))=f.tops :=
 List.filter_eq_self.mpr λ p hp=>by simpa using λ e:p=x=>h (e ▸ tops_sub f _ hp)
structure Left (tab tab':List (Int×Kvs)) (f f':Fo) (x:Int) (par:Option Int):Prop where
 t:T tab' f'
 s0:S0 par f'
 full:Full f'
 sub:f'.nums.Sublist f.nums
 out:x∉f'.nums
 fl:∀inh,Fo.fl inh f'=(Fo.fl inh f).filter λ p=>decide (p.1≠x)
 nl:f'.nl+1=f.nl
 same:∀y,y∉f.nums->tGet tab' y=tGet tab y
 keys:tab'.map (λ zz=>zz.1)=tab.map (λ zz=>zz.1)
 gt:GT tab'
theorem up (cnt:List (Int×Int)):∀ (f:Fo) (ab:List Int) (inh:Kvs) (par:Option Int) (tab:List (Int×Kvs)) (s:SpR),T tab f->f.nums.Nodup->f.nums.length<=60->Full f->C (cGet cnt) f->S0 par f->GT tab->s∈sp ab inh f->s.pg=true ->
 ∃q,s.above=ab++q/\((∃tab' f',(∀rest,UpR cnt tab s.n (q.reverse++rest) tab')/\f'.tops=f.tops/\Left tab tab' f f' s.n par) \/
  (∃tab' f' g,(∀rest tabZ,UpR cnt tab' g rest tabZ->UpR cnt tab s.n (q.reverse++rest) tabZ)/\g∈f.tops/\f'.tops=f.tops.filter (λ k=>decide (k≠g))/\Left tab tab' f f' s.n par))
 | nil,_,_,_,_,_,_,_,_,_,_,_,_,h,_=>nomatch h
 | page n kv r,ab,inh,par,tab,s,ht,hn,hl,hf,hc,hs,gt,h,hp=>by
  have hn2:=nodup_cons.mp hn
  have hl2:r.nums.length<=60:=Nat.le_of_succ_le hl
  rcases mem_cons.mp h with rfl | h
  · refine ⟨[],(append_nil _).symm,.inr ⟨tab,r,n,λ zz zz h=>h,.head _,?_,⟨ht.2.2.2.2,hs.2,hf.2,List.sublist_cons_self ..,hn2.1,λ inh=>?_,rfl,λ zz zz=>rfl,rfl,gt⟩⟩⟩
    · show r.tops=(n::r.tops).filter _
      rw [List.filter_cons_of_neg (by simp),tops_out hn2.1]
    · show _=((n,_)::Fo.fl inh r).filter _
      rw [List.filter_cons_of_neg (by simp),fl_out hn2.1]
  · have hsn:s.n∈r.nums:=by rw [←sp_nums r ab inh];exact mem_map.mpr ⟨s,h,rfl⟩
    have hne:n≠s.n:=λ e=>hn2.1 (e ▸ hsn)
    have mk:∀ {tab':List (Int×Kvs)} {r':Fo},Left tab tab' r r' s.n par->Left tab tab' (page n kv r) (page n kv r') s.n par:=λ {tab' r'} a =>
     ⟨⟨(a.same n hn2.1).trans ht.1,ht.2.1,ht.2.2.1,ht.2.2.2.1,a.t⟩,⟨hs.1,a.s0⟩,⟨hf.1,a.full⟩,a.sub.cons_cons _,λ q=>(mem_cons.mp q).elim (λ e=>hne e.symm) a.out,λ inh=>by
      show (n,_)::Fo.fl inh r'=((n,_)::Fo.fl inh r).filter _
      rw [List.filter_cons_of_pos (by simpa using hne),a.fl],by show r'.nl+1+1=r.nl+1;rw [a.nl],λ y hy=>a.same y λ q=>hy (.tail _ q),a.keys,a.gt⟩
    refine E1_2 (up cnt r ab inh par tab s ht.2.2.2.2 hn2.2 hl2 hf.2 hc.2 hs.2 gt h hp) λ q hq h9=>?_
    refine ⟨q,hq,?_⟩
    rcases h9 with ⟨tab',r',u,e,a⟩ | ⟨tab',r',g,u,hg,e,a⟩
    · exact .inl ⟨tab',page n kv r',u,by show n::r'.tops=n::r.tops;rw [e],mk a⟩
    · refine .inr ⟨tab',page n kv r',g,u,.tail _ hg,?_,mk a⟩
      show n::r'.tops=(n::r.tops).filter _
      rw [List.filter_cons_of_pos (by simpa using λ e:n=g=>hn2.1 (e ▸ tops_sub r _ hg)),e]
 | node n kv ks r,ab,inh,par,tab,s,ht,hn,hl,hf,hc,hs,gt,h,hp=>by
  have hn2:=nodup_cons.mp hn
  refine E0_3 (nodup_append.mp hn2.2) λ hk hr hkr=>?_
  have nk:n∉ks.nums:=λ q=>hn2.1 (mem_append_left _ q)
  have nr:n∉r.nums:=λ q=>hn2.1 (mem_append_right _ q)
  have hl1:(ks.nums++r.nums).length+1<=60:=hl
  rw [length_append] at hl1
  refine E0_6 ht λ t1 t2 t3 t4 t5 t6=>?_;clear ht
  refine E0_4 hs λ s1 s2 s3 s4=>?_;clear hs
  refine E0_3 hf λ f1 f2 f3=>?_;clear hf
  refine E0_3 hc λ c1 c2 c3=>?_;clear hc
  rcases mem_cons.mp h with rfl | h
  · cases hp
  rcases mem_append.mp h with h | h
  · have hsn:s.n∈ks.nums:=by rw [←sp_nums ks (ab++[n]) (givenF inh kv)];exact mem_map.mpr ⟨s,h,rfl⟩
    have hne:n≠s.n:=λ e=>nk (e ▸ hsn)
    have hsr:s.n∉r.nums:=λ q=>hkr _ hsn _ q rfl
    refine E1_2 (up cnt ks (ab++[n]) (givenF inh kv) (some n) tab s t5 hk (by lia) f2 c2 s3 gt h hp) λ q hq h9=>?_
    refine ⟨n::q,by rw [hq,append_assoc];rfl,?_⟩
    have hrev:∀rest:List Int,(n::q).reverse++rest=q.reverse++(n::rest):=λ rest=>by rw [List.reverse_cons,append_assoc];rfl
    simp only [hrev]
    rcases h9 with ⟨tab',ks',u,e,a⟩ | ⟨tab',ks',g,u,hg,e,a⟩
    · refine .inl ⟨tab',node n kv ks' r,λ rest=>u _,rfl,⟨⟨(a.same n nk).trans t1,t2,t3,by rw [e];exact t4,a.t,t6.congr λ x hx=>a.same x λ q=>hkr x q x hx rfl⟩,⟨s1,s2,a.s0,s4⟩,⟨tops_nl a.full (by rw [e];exact nl_tops f1),a.full,f3⟩,(a.sub.append (List.Sublist.refl _)).cons_cons _,?_,λ inh=>?_,?_,λ y hy=>a.same y λ q=>hy (.tail _ (mem_append_left _ q)),a.keys,a.gt⟩⟩
      · intro q
        rcases mem_cons.mp q with q | q
        · exact hne q.symm
        · exact (mem_append.mp q).elim a.out hsr
      · show Fo.fl _ ks'++Fo.fl inh r=(Fo.fl _ ks++Fo.fl inh r).filter _
        rw [List.filter_append,a.fl,fl_out hsr]
      · show ks'.nl+r.nl+1=ks.nl+r.nl;have:=a.nl;simp+arith [*]
    · have hrow:tGet tab' n=some kv:=(a.same n nk).trans t1
      have hkl:ks.tops.length<=60:=Nat.le_trans (tops_len ks) (by lia)
      have hkids:∀k∈ks.tops,∃kv,tGet tab' k=some kv:=λ k hk'=>by
       obtain ⟨kv',e'⟩:=T_top t5 k hk'
       exact tGet_has (by rw [a.keys];exact tGet_key e')
      have hk1:(ks.tops.filter λ k=>decide (k≠g)).length<=60:=Nat.le_trans (List.length_filter_le _ _) hkl
      have key:∀x,tGet (tPut tab' n (newK kv (ks.tops.filter λ k=>decide (k≠g)))) x=if x=n then some (newK kv (ks.tops.filter λ k=>decide (k≠g))) else tGet tab' x:=λ x=>tGet_put ..
      have hke:(tPut tab' n (newK kv (ks.tops.filter λ k=>decide (k≠g)))).map (λ zz=>zz.1)=tab.map (λ zz=>zz.1):=(tPut_keys hrow).trans a.keys
      have hgt:GT (tPut tab' n (newK kv (ks.tops.filter λ k=>decide (k≠g)))):=a.gt.put (newK_gk t2 hk1)
      have hT6:T (tPut tab' n (newK kv (ks.tops.filter λ k=>decide (k≠g)))) r:=t6.congr λ x hx=>by
       rw [key,if_neg λ e=>nr (by rw [←e];exact hx)];exact a.same x λ q=>hkr x q x hx rfl
      have hsame:∀y,y∉(node n kv ks r).nums->tGet (tPut tab' n (newK kv (ks.tops.filter λ k=>decide (k≠g)))) y=tGet tab y:=λ y hy=>by
       rw [key,if_neg λ e=>hy (by rw [e];exact .head _)];exact a.same y λ q=>hy (.tail _ (mem_append_left _ q))
      by_cases h1:1 < ks.nl
      · refine .inl ⟨tPut tab' n (newK kv (ks.tops.filter λ k=>decide (k≠g))),node n (newK kv (ks.tops.filter λ k=>decide (k≠g))) ks' r,λ rest=>u _ _ (.stop hrow (Nat.le_trans t2.len (by decide)) t4 hkl hkids c1 (by lia)),rfl,⟨⟨?_,newK_gk t2 hk1,?_,?_,?_,hT6⟩,⟨newK_par s1,newK_cnt s2,a.s0,s4⟩,⟨by have:=a.nl;lia,a.full,f3⟩,(a.sub.append (List.Sublist.refl _)).cons_cons _,?_,λ inh=>?_,?_,hsame,hke,hgt⟩⟩
        · rw [key,if_pos rfl]
        · rw [newK_get,if_neg kK_T];exact t3
        · rw [newK_get,if_pos rfl,e]
        · exact a.t.congr λ x hx=>by rw [key,if_neg λ e=>nk (by rw [←e];exact a.sub.subset hx)]
        · intro q
          rcases mem_cons.mp q with q | q
          · exact hne q.symm
          · exact (mem_append.mp q).elim a.out hsr
        · show Fo.fl _ ks'++Fo.fl inh r=(Fo.fl _ ks++Fo.fl inh r).filter _
          rw [List.filter_append,a.fl,fl_out hsr,newK_inh]
        · show ks'.nl+r.nl+1=ks.nl+r.nl;have:=a.nl;simp+arith [*]
      · have h0:ks'.nl=0:=by have:=a.nl;lia
        refine .inr ⟨tPut tab' n (newK kv (ks.tops.filter λ k=>decide (k≠g))),r,n,λ rest tabZ hz=>u _ _ (.go hrow (Nat.le_trans t2.len (by decide)) t4 hkl hkids c1 (by lia) hz),.head _,?_,⟨hT6,s4,f3,(List.sublist_append_right _ _).cons _,hsr,λ inh=>?_,?_,hsame,hke,hgt⟩⟩
        · show r.tops=(n::r.tops).filter _
          rw [List.filter_cons_of_neg (by simp),tops_out nr]
        · show Fo.fl inh r=(Fo.fl _ ks++Fo.fl inh r).filter _
          have e0:Fo.fl (givenF inh kv) ks'=[]:=List.eq_nil_of_length_eq_zero (by rw [fl_len,h0])
          rw [List.filter_append,← a.fl,e0,fl_out hsr,List.nil_append]
        · show r.nl+1=ks.nl+r.nl;have:=a.nl;lia
  · have hsn:s.n∈r.nums:=by rw [←sp_nums r ab inh];exact mem_map.mpr ⟨s,h,rfl⟩
    have hne:n≠s.n:=λ e=>nr (e ▸ hsn)
    have hsk:s.n∉ks.nums:=λ q=>hkr _ q _ hsn rfl
    have mk:∀ {tab':List (Int×Kvs)} {r':Fo},Left tab tab' r r' s.n par->Left tab tab' (node n kv ks r) (node n kv ks r') s.n par:=λ {tab' r'} a =>
     ⟨⟨(a.same n nr).trans t1,t2,t3,t4,t5.congr λ x hx=>a.same x λ q=>hkr x hx x q rfl,a.t⟩,⟨s1,s2,s3,a.s0⟩,⟨f1,f2,a.full⟩,((List.Sublist.refl _).append a.sub).cons_cons _,λ q=>(mem_cons.mp q).elim (λ e=>hne e.symm) λ q=>(mem_append.mp q).elim hsk a.out,λ inh=>by
      show Fo.fl _ ks++Fo.fl inh r'=(Fo.fl _ ks++Fo.fl inh r).filter _
      rw [List.filter_append,a.fl,fl_out hsk],by show ks.nl+r'.nl+1=ks.nl+r.nl;have:=a.nl;simp+arith [*],λ y hy=>a.same y λ q=>hy (.tail _ (mem_append_right _ q)),a.keys,a.gt⟩
    refine E1_2 (up cnt r ab inh par tab s t6 hr (by lia) f3 c3 s4 gt h hp) λ q hq h9=>?_
    refine ⟨q,hq,?_⟩
    rcases h9 with ⟨tab',r',u,e,a⟩ | ⟨tab',r',g,u,hg,e,a⟩
    · exact .inl ⟨tab',node n kv ks r',u,by show n::r'.tops=n::r.tops;rw [e],mk a⟩
    · refine .inr ⟨tab',node n kv ks r',g,u,.tail _ hg,?_,mk a⟩
      show n::r'.tops=(n::r.tops).filter _
      rw [List.filter_cons_of_pos (by simpa using λ e:n=g=>nr (e ▸ tops_sub r _ hg)),e]
end Fo
namespace Fo
theorem upR {tab:List (Int×Kvs)} {n0:Int} {kv0:Kvs} {ks:Fo} {s:SpR} (ht:T tab (node n0 kv0 ks nil)) (hn:(node n0 kv0 ks nil).nums.Nodup) (hl:(node n0 kv0 ks nil).nums.length<=60) (hf:Full ks) (hs:S0 none (node n0 kv0 ks nil)) (gt:GT tab)
 (h:s∈sp [] [] (node n0 kv0 ks nil)) (hp:s.pg=true) :
 ∃tab1 kv1 ks1,UpR (countsF (sp [] [] (node n0 kv0 ks nil))) tab s.n s.above.reverse tab1/\T tab1 (node n0 kv1 ks1 nil)/\S0 none (node n0 kv1 ks1 nil)/\Full ks1/\(node n0 kv1 ks1 nil).nums.Sublist (node n0 kv0 ks nil).nums/\s.n∉(node n0 kv1 ks1 nil).nums /\
  (∀k,k≠kKids->mGetD kv1 k=mGetD kv0 k)/\fl [] (node n0 kv1 ks1 nil)=(fl [] (node n0 kv0 ks nil)).filter (λ p=>decide (p.1≠s.n))/\(∀y,y∉(node n0 kv0 ks nil).nums->tGet tab1 y=tGet tab y)/\tab1.map (λ zz=>zz.1)=tab.map (λ zz=>zz.1)/\GT tab1:=by
 refine E0_3 (counts _ hn) λ c1 c2 zz=>?_
 refine E0_6 ht λ t1 t2 t3 t4 t5 zz=>?_;clear ht
 refine E0_4 hs λ s1 s2 s3 zz=>?_;clear hs
 have en:(node n0 kv0 ks nil).nums=n0::ks.nums:=by show n0::(ks.nums++[])=_;rw [append_nil]
 rw [en] at hn hl
 rw [length_cons] at hl
 have hn2:=nodup_cons.mp hn
 have e2:sp [] [] (node n0 kv0 ks nil)=⟨n0,kv0,[],givenF [] kv0,false⟩::sp [n0] (givenF [] kv0) ks:=by
  show _::(sp ([]++[n0]) (givenF [] kv0) ks++[])=_;rw [append_nil];rfl
 rw [e2] at h
 rcases mem_cons.mp h with rfl | h
 · cases hp
 have hsn:s.n∈ks.nums:=by rw [←sp_nums ks [n0] (givenF [] kv0)];exact mem_map.mpr ⟨s,h,rfl⟩
 have hne:n0≠s.n:=λ e=>hn2.1 (e ▸ hsn)
 refine E1_2 (up (countsF (sp [] [] (node n0 kv0 ks nil))) ks [n0] (givenF [] kv0) (some n0) tab s t5 hn2.2 (by exact Nat.le_of_lt (by assumption)) hf c2 s3 gt h hp) λ q hq h9=>?_
 have hrev:s.above.reverse=q.reverse++[n0]:=by rw [hq,List.reverse_append];rfl
 rw [hrev]
 have efl:∀ (k:Kvs) (x:Fo),fl [] (node n0 k x nil)=fl (givenF [] k) x:=λ k x=>by show _++[]=_;rw [append_nil]
 rcases h9 with ⟨tab',ks',u,e,a⟩ | ⟨tab',ks',g,u,hg,e,a⟩
 · refine ⟨tab',kv0,ks',u _,⟨(a.same _ hn2.1).trans t1,t2,t3,by rw [e];exact t4,a.t,trivial⟩,⟨s1,s2,a.s0,trivial⟩,a.full,(a.sub.append (List.Sublist.refl _)).cons_cons _,?_,λ zz zz=>rfl,by rw [efl,efl,a.fl],λ y hy=>a.same y λ q=>hy (by rw [en];exact .tail _ q),a.keys,a.gt⟩
   intro q;rcases mem_cons.mp q with q | q
   · exact hne q.symm
   · exact a.out (by simpa [Fo.nums_e] using q)
 · have hrow:tGet tab' n0=some kv0:=(a.same _ hn2.1).trans t1
   have hkl:ks.tops.length<=60:=Nat.le_trans (tops_len ks) (by exact Nat.le_of_lt (by assumption))
   have hkids:∀k∈ks.tops,∃kv,tGet tab' k=some kv:=λ k hk'=>by
    obtain ⟨kv',e'⟩:=T_top t5 k hk'
    exact tGet_has (by rw [a.keys];exact tGet_key e')
   have hk1:(ks.tops.filter λ k=>decide (k≠g)).length<=60:=Nat.le_trans (List.length_filter_le _ _) hkl
   have key:∀x,tGet (tPut tab' n0 (newK kv0 (ks.tops.filter λ k=>decide (k≠g)))) x=if x=n0 then some (newK kv0 (ks.tops.filter λ k=>decide (k≠g))) else tGet tab' x:=λ x=>tGet_put ..
   refine ⟨tPut tab' n0 (newK kv0 (ks.tops.filter λ k=>decide (k≠g))),newK kv0 (ks.tops.filter λ k=>decide (k≠g)),ks',?_,⟨?_,newK_gk t2 hk1,?_,?_,?_,trivial⟩,⟨newK_par s1,newK_cnt s2,a.s0,trivial⟩,a.full,(a.sub.append (List.Sublist.refl _)).cons_cons _,?_,λ k hk=>by rw [newK_get,if_neg hk],by rw [efl,efl,a.fl,newK_inh],λ y hy=>?_,(tPut_keys hrow).trans a.keys,a.gt.put (newK_gk t2 hk1)⟩
   · by_cases h1:1 < ks.nl
     · exact u _ _ (.stop hrow (Nat.le_trans t2.len (by decide)) t4 hkl hkids c1 (by lia))
     · exact u _ _ (.go hrow (Nat.le_trans t2.len (by decide)) t4 hkl hkids c1 (by lia) .nil)
   · rw [key,if_pos rfl]
   · rw [newK_get,if_neg kK_T];exact t3
   · rw [newK_get,if_pos rfl,e]
   · exact a.t.congr λ x hx=>by rw [key,if_neg λ e=>hn2.1 (by rw [←e];exact a.sub.subset hx)]
   · intro q;rcases mem_cons.mp q with q | q
     · exact hne q.symm
     · exact a.out (by simpa [Fo.nums_e] using q)
   · rw [en] at hy
     rw [key,if_neg λ e=>hy (by rw [e];exact .head _)];exact a.same y λ q=>hy (.tail _ q)
theorem fields_congr {kv kv' inh:Kvs} (h:∀k∈FKEYS,mGetD kv' k=mGetD kv k) (hi:∀k∈INHS,mGetD kv' k=mGetD kv k):fldsOf (fieldsF kv' (givenF inh kv'))=fldsOf (fieldsF kv (givenF inh kv)):=by
 rw [given_congr hi inh]
 exact fldsOf_congr λ k hk=>by rw [fieldsF_get,fieldsF_get,h k hk]
theorem inh_npc:∀k∈INHS,k≠kParent/\k≠kCount/\k≠kKids/\k≠kType:=by decide+kernel
theorem fk_npc:∀k∈FKEYS,k≠kParent/\k≠kCount/\k≠kKids/\k≠kType:=by decide+kernel
theorem HR.inh {par:Option Int} {pg:Bool} {c:Int} {kv kv':Kvs} (h:HR par pg c kv kv'):∀k∈INHS,mGetD kv' k=mGetD kv k:=λ k hk=>h.same k (inh_npc k hk).1 (inh_npc k hk).2.1
theorem HR.fk {par:Option Int} {pg:Bool} {c:Int} {kv kv':Kvs} (h:HR par pg c kv kv'):∀k∈FKEYS,mGetD kv' k=mGetD kv k:=λ k hk=>h.same k (fk_npc k hk).1 (fk_npc k hk).2.1
theorem R.fl {f f':Fo} {par:Option Int} (h:R par f f'):∀inh,Fo.fl inh f'=Fo.fl inh f:=by
 induction h with
 | nil=>exact λ zz=>rfl
 | page a zz ih =>
  intro inh
  show (_,_)::Fo.fl inh _=(_,_)::Fo.fl inh _
  rw [ih inh,fields_congr (HR.fk a) (HR.inh a)]
 | node a _ _ i1 i2 =>
  intro inh
  show Fo.fl _ _++Fo.fl inh _=Fo.fl _ _++Fo.fl inh _
  rw [given_congr (HR.inh a) inh,i1,i2]
theorem R.full {f f':Fo} {par:Option Int} (h:R par f f'):Full f->Full f':=by
 induction h with
 | nil=>exact id
 | page a zz ih=>exact λ h=>⟨a.gk.none (by rw [a.same kKids (Ne.symm kK_P) (Ne.symm kK_C),mGetD,h.1];rfl),ih h.2⟩
 | node _ b _ i1 i2=>exact λ h=>⟨by rw [R.nl b];exact h.1,i1 h.2.1,i2 h.2.2⟩
end Fo
structure St (tab:List (Int×Kvs)) (rc n0:Int) (kv0:Kvs) (ks:Fo) (K:Nat):Prop where
 t:Fo.T tab (.node n0 kv0 ks .nil)
 g:Fo.G none (.node n0 kv0 ks .nil)
 nd:(Fo.node n0 kv0 ks .nil).nums.Nodup
 len:(Fo.node n0 kv0 ks .nil).nums.length<=50
 full:Fo.Full ks
 gt:GT tab
 cat:∃kvs,tGet tab rc=some kvs/\mGet kvs kPages=some (mRef n0)
 rcn:rc∉(Fo.node n0 kv0 ks .nil).nums
 keys:tab.map (λ zz=>zz.1)=keysTo K
noncomputable abbrev spR (n0:Int) (kv0:Kvs) (ks:Fo):List SpR:=Fo.sp [] [] (.node n0 kv0 ks .nil)
noncomputable abbrev flR (n0:Int) (kv0:Kvs) (ks:Fo):List (Int×List MV):=Fo.fl [] (.node n0 kv0 ks .nil)
theorem spok_of {tab:List (Int×Kvs)} {rc n0:Int} {kv0:Kvs} {ks:Fo} (t:Fo.T tab (.node n0 kv0 ks .nil)) (nd:(Fo.node n0 kv0 ks .nil).nums.Nodup) (len:(Fo.node n0 kv0 ks .nil).nums.length<=60)
 (cat:∃kvs,tGet tab rc=some kvs/\mGet kvs kPages=some (mRef n0)):SpOk tab (some rc) n0 (spR n0 kv0 ks):=by
 refine ⟨⟨?_⟩,?_,by rw [Fo.sp_nums];exact nd,by rw [←length_map (f:=λ s:SpR=>s.n),Fo.sp_nums];exact len,λ s hs=>by f_shut hs;rfl⟩
 · refine E1_2 cat λ k a b=>?_;clear cat;exact ⟨k,a,b⟩
 · have:=Fo.run (.node n0 kv0 ks .nil) [] [] [] [] t InhOk.nil (by simpa using len) .nil
   simpa [Fo.tops_e] using this
theorem hab_of (f:Fo):∀s∈Fo.sp [] [] f,∀a∈s.above,a∈(Fo.sp [] [] f).map (λ zz=>zz.n):=λ s hs a ha=>by
 refine E1_3 (Fo.sp_above f [] [] s hs) λ q h1 h2 zz=>?_
 rw [h1,List.nil_append] at ha
 rw [Fo.sp_nums];exact h2 a ha
theorem hd_of {tab:List (Int×Kvs)} {f:Fo} (t:Fo.T tab f):∀s∈Fo.sp [] [] f,HdOk s.kvs/\s.inh.length<=20:=λ s hs =>
 have q:=Fo.sp_all f [] [] t InhOk.nil s hs
 ⟨q.1.hd,q.2.1.len⟩
theorem settled {tab:List (Int×Kvs)} {rc n0:Int} {kv0:Kvs} {ks:Fo} {K:Nat} (t:Fo.T tab (.node n0 kv0 ks .nil)) (s0:Fo.S0 none (.node n0 kv0 ks .nil)) (nd:(Fo.node n0 kv0 ks .nil).nums.Nodup) (len:(Fo.node n0 kv0 ks .nil).nums.length<=50)
 (full:Fo.Full ks) (gt:GT tab) (cat:∃kvs,tGet tab rc=some kvs/\mGet kvs kPages=some (mRef n0)) (rcn:rc∉(Fo.node n0 kv0 ks .nil).nums) (keys:tab.map (λ zz=>zz.1)=keysTo K) :
 ∃tabF kvF ksF,Stl (countsF (spR n0 kv0 ks)) tab (spR n0 kv0 ks) tabF/\St tabF rc n0 kvF ksF K/\(∀k,k≠kParent->k≠kCount->mGetD kvF k=mGetD kv0 k)/\flR n0 kvF ksF=flR n0 kv0 ks/\Fo.R (some n0) ks ksF/\(∀y,y∉(Fo.node n0 kv0 ks .nil).nums->tGet tabF y=tGet tab y):=by
 ctx_has tab rc n0 kv0 ks K
 refine E2_6 (Fo.stl (countsF (spR n0 kv0 ks)) (.node n0 kv0 ks .nil) [] [] tab t nd s0 (Fo.counts _ nd) gt) λ tabF f' a1 a2 a3 a4 a5 a6=>?_
 have h6:=a6 [] tabF .nil
 rw [append_nil] at h6
 refine E3_4 a2.inv λ kvF ksF r e b1 b2 b3=>?_
 have er:r = .nil:=b3.inv
 rw [er] at e;rw [e] at a1 a2
 have en:=Fo.R.nums a2
 refine ⟨tabF,kvF,ksF,h6,⟨a1,Fo.R.g a2,by rw [en];exact nd,by rw [en];exact len,Fo.R.full b2 full,a5,?_,by rw [en];exact rcn,a4.trans keys⟩,b1.same,Fo.R.fl a2 [],b2,a3⟩
 refine E1_2 cat λ kvs c1 c2=>?_;clear cat
 exact ⟨kvs,(a3 rc rcn).trans c1,c2⟩
theorem St.remove {tab:List (Int×Kvs)} {rc n0:Int} {kv0:Kvs} {ks:Fo} {K:Nat} (h:St tab rc n0 kv0 ks K) {s:SpR} (hs:s∈spR n0 kv0 ks) (hp:s.pg=true) :
 ∃tab1 kv1 ks1 tabF kvF ksF,UpR (countsF (spR n0 kv0 ks)) tab s.n s.above.reverse tab1 /\
  SpOk (tPut tab1 s.n (turnedF (fieldsF s.kvs s.inh) [(kParent,.none)])) (some rc) n0 (spR n0 kv1 ks1)/\(∀s∈spR n0 kv1 ks1,s.kvs.length<=20) /\
  Stl (countsF (spR n0 kv1 ks1)) (tPut tab1 s.n (turnedF (fieldsF s.kvs s.inh) [(kParent,.none)])) (spR n0 kv1 ks1) tabF /\
  St tabF rc n0 kvF ksF K/\(∀k∈INHS,mGetD kvF k=mGetD kv0 k)/\flR n0 kvF ksF=(flR n0 kv0 ks).filter (λ p=>decide (p.1≠s.n))/\tGet tabF s.n=some (turnedF (fieldsF s.kvs s.inh) [(kParent,.none)]) /\
  (∀y,tGet tab y≠none->y∉(Fo.node n0 kv0 ks .nil).nums->tGet tabF y=tGet tab y):=by
 revert h;ctx_has tab rc n0 kv0 ks K s
 have hl:(Fo.node n0 kv0 ks .nil).nums.length<=60:=Nat.le_trans h.len (by decide)
 refine E3_11 (Fo.upR h.t h.nd hl h.full (Fo.G.s0 h.t h.g) h.gt hs hp) λ tab1 kv1 ks1 u t1 s1 f1 sub out kk fl1 same keys gt1=>?_
 have hsn:s.n∈(Fo.node n0 kv0 ks .nil).nums:=by rw [←Fo.sp_nums _ [] []];exact mem_map.mpr ⟨s,hs,rfl⟩
 refine E0_3 (Fo.sp_all _ [] [] h.t InhOk.nil s hs) λ g1 g2 zz=>?_
 have gk:GK (turnedF (fieldsF s.kvs s.inh) [(kParent,.none)]):=(g1.fields g2).turn1 (p:=(kParent,.none)) kp_in (.inl rfl) λ q=>absurd q kp_ni
 have hrow:∃kv,tGet tab1 s.n=some kv:=tGet_has (by
  rw [keys,h.keys]
  have:∀ {f:Fo},Fo.T tab f->∀x∈f.nums,x∈tab.map (λ zz=>zz.1):=by
   intro f
   induction f with
   | nil=>intro zz zz h;f_shut h
   | page n kv r ih=>intro t x hx;rcases mem_cons.mp hx with rfl | hx;exact tGet_key t.1;exact ih t.2.2.2.2 x hx
   | node n kv ks r ih1 ih2 =>
    intro t x hx
    rcases mem_cons.mp hx with rfl | hx
    · exact tGet_key t.1
    · exact (mem_append.mp hx).elim (ih1 t.2.2.2.2.1 x) (ih2 t.2.2.2.2.2 x)
  rw [←h.keys];exact this h.t _ hsn)
 obtain ⟨okv,hrow⟩:=hrow
 have key:∀x,tGet (tPut tab1 s.n (turnedF (fieldsF s.kvs s.inh) [(kParent,.none)])) x=if x=s.n then some (turnedF (fieldsF s.kvs s.inh) [(kParent,.none)]) else tGet tab1 x:=λ x=>tGet_put ..
 have t2:Fo.T (tPut tab1 s.n (turnedF (fieldsF s.kvs s.inh) [(kParent,.none)])) (.node n0 kv1 ks1 .nil):=t1.congr λ x hx=>by rw [key,if_neg λ e=>out (by rw [←e];exact hx)]
 have hrs:rc≠s.n:=λ e=>h.rcn (e ▸ hsn)
 have cat:∃kvs,tGet (tPut tab1 s.n (turnedF (fieldsF s.kvs s.inh) [(kParent,.none)])) rc=some kvs/\mGet kvs kPages=some (mRef n0):=by
  refine E1_2 (h.cat) λ kvs c1 c2=>?_
  exact ⟨kvs,by rw [key,if_neg hrs,same rc h.rcn];exact c1,c2⟩
 have nd1:=h.nd.sublist sub
 have len1:(Fo.node n0 kv1 ks1 .nil).nums.length<=50:=Nat.le_trans sub.length_le h.len
 refine E3_6 (settled t2 s1 nd1 len1 f1 (gt1.put gk) cat (λ q=>h.rcn (sub.subset q)) ((tPut_keys hrow).trans (keys.trans h.keys))) λ tabF kvF ksF z1 z2 z3 z4 zz z5=>?_
 refine ⟨tab1,kv1,ks1,tabF,kvF,ksF,u,spok_of t2 nd1 (Nat.le_trans len1 (by decide)) cat,λ s hs=>(hd_of t2 s hs).1.len,z1,z2,λ k hk=>?_,z4.trans fl1,?_,λ y zz hy=>?_⟩
 · have q:=Fo.inh_npc k hk
   rw [z3 k q.1 q.2.1,kk k q.2.2.1]
 · rw [z5 _ out,key,if_pos rfl]
 · rw [z5 y λ q=>hy (sub.subset q),key,if_neg λ e=>hy (by rw [e];exact hsn)]
   exact same y hy
namespace Fo
theorem T_keys {tab:List (Int×Kvs)}:∀ {f:Fo},T tab f->∀x∈f.nums,x∈tab.map (λ zz=>zz.1)
 | nil,_,_,h=>nomatch h
 | page n kv r,t,x,hx=>by
  rcases mem_cons.mp hx with rfl | hx
  · exact tGet_key t.1
  · exact T_keys t.2.2.2.2 x hx
 | node n kv ks r,t,x,hx=>by
  rcases mem_cons.mp hx with rfl | hx
  · exact tGet_key t.1
  · exact (mem_append.mp hx).elim (T_keys t.2.2.2.2.1 x) (T_keys t.2.2.2.2.2 x)
theorem pat {tab:List (Int×Kvs)}:∀ (f:Fo) (ab:List Int) (inh:Kvs) (par:Option Int) (lf:Nat),T tab f->G par f->InhOk inh->ab.length+f.nums.length<=60->ab.length+f.nums.length<=tab.length->lf < f.nl ->
 ∃k' kvs' b' lf' d s,Kid tab f.tops lf k' kvs' b' lf'/\PAt tab d k' kvs' ab (givenF inh kvs') b' lf' s.n s.kvs s.inh/\((sp ab inh f).filter (λ zz=>zz.pg))[lf]? = some s
 | nil,_,_,_,_,_,_,_,_,_,h=>absurd h (Nat.not_lt_zero _)
 | page n kv r,ab,inh,par,lf,ht,hg,hi,h6,hl,h=>by
  have h6':ab.length+(r.nums.length+1)<=60:=h6
  have hl':ab.length+(r.nums.length+1)<=tab.length:=hl
  have hrow:KidRow tab n kv false 1:=⟨ht.1,ht.2.1.hd,ht.2.2.1,.inl ⟨rfl,rfl⟩,by decide⟩
  cases lf with
  | zero=>exact ⟨n,kv,false,0,0,⟨n,kv,ab,givenF inh kv,true⟩,.here hrow (by decide),.page ht.2.1.hd (hi.given ht.2.1).len,rfl⟩
  | succ m =>
   refine E6_3 (pat r ab inh par m ht.2.2.2.2 hg.2 hi (by exact Nat.le_of_lt (by assumption)) (by exact Nat.le_of_lt (by assumption)) (Nat.lt_of_succ_lt_succ h)) λ k' kvs' b' lf' d s a b c=>?_
   refine ⟨k',kvs',b',lf',d,s,.next hrow (by simp+arith) ?_,b,?_⟩
   · have e:((m+1:Nat):Int) - 1=(m:Int):=by simp+arith
     rw [e];exact a
   · show (List.filter _ (_::sp ab inh r))[m+1]? = _
     rw [List.filter_cons_of_pos rfl];exact c
 | node n kv ks r,ab,inh,par,lf,ht,hg,hi,h6,hl,h=>by
  have h6':ab.length+((ks.nums++r.nums).length+1)<=60:=h6
  have hl':ab.length+((ks.nums++r.nums).length+1)<=tab.length:=hl
  rw [length_append] at h6' hl'
  refine E0_6 ht λ t1 t2 t3 t4 t5 t6=>?_;clear ht
  refine E0_4 hg λ g1 g2 g3 g4=>?_;clear hg
  have hrow:KidRow tab n kv true ks.nl:=⟨t1,t2.hd,t3,.inr ⟨rfl,g2⟩,Int.natCast_nonneg _⟩
  have e0:(sp ab inh (node n kv ks r)).filter (λ zz=>zz.pg)=(sp (ab++[n]) (givenF inh kv) ks).filter (λ zz=>zz.pg)++(sp ab inh r).filter (λ zz=>zz.pg):=by
   show List.filter _ (_::(_++_))=_
   rw [List.filter_cons_of_neg (by simp),List.filter_append]
  have e1:((sp (ab++[n]) (givenF inh kv) ks).filter (λ zz=>zz.pg)).length=ks.nl:=by
   rw [←fl_len (givenF inh kv) ks,← sp_fl ks (ab++[n]) (givenF inh kv),length_map]
  rw [e0]
  by_cases hc:lf < ks.nl
  · refine E6_3 (pat ks (ab++[n]) (givenF inh kv) (some n) lf t5 g3 (hi.given t2) (by simp;lia) (by simp;lia) hc) λ k' kvs' b' lf' d s a b c=>?_
    refine ⟨n,kv,true,lf,d+1,s,.here hrow (by simp+arith [*]),.node t4 (hi.given t2).len (by lia) (by lia) a b,?_⟩
    rw [List.getElem?_append_left (by rw [e1];exact hc)];exact c
  · have hlf:lf < ks.nl+r.nl:=h
    refine E6_3 (pat r ab inh par (lf - ks.nl) t6 g4 hi (by lia) (by lia) (by lia)) λ k' kvs' b' lf' d s a b c=>?_
    refine ⟨k',kvs',b',lf',d,s,.next hrow (by simp+arith [*]) ?_,b,?_⟩
    · have e:(lf:Int) - (ks.nl:Int)=((lf - ks.nl:Nat):Int):=by lia
      rw [e];exact a
    · rw [List.getElem?_append_right (by rw [e1];lia),e1];exact c
theorem good {tab:List (Int×Kvs)} {cnt:List (Int×Int)}:∀ (f:Fo) (ab:List Int) (inh:Kvs),T tab f->G ab.getLast? f->C (cGet cnt) f->InhOk inh->mGetD inh kMedia≠.none->∀s∈sp ab inh f,SpGood cnt s
 | nil,_,_,_,_,_,_,_,_,h=>nomatch h
 | page n kv r,ab,inh,ht,hg,hc,hi,hm,s,h=>by
  rcases mem_cons.mp h with rfl | h
  · refine ⟨?_,⟨1,hc.1,.page rfl ht.2.2.2.1⟩,λ zz=>?_⟩
    · have q:=hg.1
      cases e:ab.getLast? with
      | none=>rw [e] at q;exact .root (List.getLast?_eq_none_iff.mp e) (ht.2.1.none q)
      | some p =>
       rw [e] at q
       obtain ⟨ab',ea⟩:=List.getLast?_eq_some_iff.mp e
       have:=SpPar.ref (s:=⟨n,kv,ab,givenF inh kv,true⟩) (q:=p) ea (by rw [←show mGetD kv kParent=mRef p from q];exact mGetD_some (by rw [q];intro e;cases e))
       simpa using this
    · cases e:mGet (givenF inh kv) kMedia with
      | some zz=>rfl
      | none =>
       have:=givenF_get inh kv kMedia
       rw [mGetD,e,if_pos (by decide+kernel)] at this
       cases e2:mGetD kv kMedia <;> rw [e2] at this <;> first | (exact absurd this.symm hm) | (exact absurd this (by intro q;cases q))
  · exact good r ab inh ht.2.2.2.2 hg.2 hc.2 hi hm s h
 | node n kv ks r,ab,inh,ht,hg,hc,hi,hm,s,h=>by
  refine E0_6 ht λ t1 t2 t3 t4 t5 t6=>?_;clear ht
  rcases mem_cons.mp h with rfl | h
  · refine ⟨?_,⟨ks.nl,hc.1,?_⟩,λ q=>by cases q⟩
    · have q:=hg.1
      cases e:ab.getLast? with
      | none=>rw [e] at q;exact .root (List.getLast?_eq_none_iff.mp e) (t2.none q)
      | some p =>
       rw [e] at q
       obtain ⟨ab',ea⟩:=List.getLast?_eq_some_iff.mp e
       have:=SpPar.ref (s:=⟨n,kv,ab,givenF inh kv,false⟩) (q:=p) ea (by rw [←show mGetD kv kParent=mRef p from q];exact mGetD_some (by rw [q];intro e;cases e))
       simpa using this
    · have:=SpCnt.int (s:=⟨n,kv,ab,givenF inh kv,false⟩) (c:=ks.nl) rfl hg.2.1 (Int.natCast_nonneg _)
      simpa using this
  · rcases mem_append.mp h with h | h
    · refine good ks _ _ t5 (by rw [show (ab++[n]).getLast? = some n by simp];exact hg.2.2.1) hc.2.1 (hi.given t2) ?_ s h
      rw [givenF_get,if_pos (by decide+kernel)]
      cases e2:mGetD kv kMedia <;> first | exact hm | (intro q;cases q)
    · exact good r ab inh t6 hg.2.2.2 hc.2.2 hi hm s h
end Fo
inductive FRun (tab:List (Int×Kvs)):List Int->Nat->Prop
 | nil:FRun tab [] 0
 | page {l k kv m}:tGet tab k=some kv->mGet kv kKids=none->kv.length<=20->FRun tab l m->FRun tab (l++[k]) (m+1)
 | node {l k kv ks c m}:tGet tab k=some kv->mGet kv kKids=some (mRefs ks)->ks≠[]->ks.length<=60->mGet kv kCount=some (.int c)->1<=c->kv.length<=20->FRun tab (l++ks) m->FRun tab (l++[k]) (m+1)
theorem FRun.len {tab:List (Int×Kvs)} {l:List Int} {m:Nat} (h:FRun tab l m):l.length<=m:=by
 induction h with
 | nil=>exact Nat.le_refl _
 | page _ _ _ _ ih=>simp;exact ih
 | node _ _ hne _ _ _ _ _ ih=>have:=List.length_pos_iff.mpr hne;simp at ih ⊢;lia
theorem Fo.frun {tab:List (Int×Kvs)}:∀ (f:Fo) (par:Option Int) (l:List Int) (m:Nat),Fo.T tab f->Fo.G par f->Fo.Full f->f.nums.length<=60->FRun tab l m->FRun tab (l++f.tops) (m+f.nums.length)
 | nil,_,l,m,_,_,_,_,h=>by show FRun tab (l++[]) (m+0);rw [append_nil];exact h
 | page n kv r,par,l,m,ht,hg,hf,h6,h=>by
  have h6':r.nums.length+1<=60:=h6
  have q:=Fo.frun r par (l++[n]) (m+1) ht.2.2.2.2 hg.2 hf.2 (by exact Nat.le_of_lt (by assumption)) (.page ht.1 hf.1 (Nat.le_trans ht.2.1.len (by decide)) h)
  have e1:l++(n::r.tops)=l++[n]++r.tops:=by simp
  have e2:m+(r.nums.length+1)=m+1+r.nums.length:=by simp+arith
  show FRun tab (l++(n::r.tops)) (m+(r.nums.length+1))
  rw [e1,e2];exact q
 | node n kv ks r,par,l,m,ht,hg,hf,h6,h=>by
  have h6':(ks.nums++r.nums).length+1<=60:=h6
  rw [length_append] at h6'
  refine E0_6 ht λ t1 t2 t3 t4 t5 t6=>?_;clear ht
  have hk:=Fo.frun ks (some n) l m t5 hg.2.2.1 hf.2.1 (by lia) h
  have e4:mGet kv kKids=some (mRefs ks.tops):=by rw [←t4];exact mGetD_some (by rw [t4];intro e;f_shut e)
  have e5:mGet kv kCount=some (.int ks.nl):=by rw [←hg.2.1];exact mGetD_some (by rw [hg.2.1];intro e;f_shut e)
  have hq:=FRun.node t1 e4 (Fo.nl_tops hf.1) (Nat.le_trans (Fo.tops_len ks) (by lia)) e5 (by have:=hf.1;lia) (Nat.le_trans t2.len (by decide)) hk
  have q:=Fo.frun r par (l++[n]) _ t6 hg.2.2.2 hf.2.2 (by lia) hq
  have e1:l++(n::r.tops)=l++[n]++r.tops:=by simp
  have e2:m+((ks.nums++r.nums).length+1)=m+ks.nums.length+1+r.nums.length:=by rw [length_append];simp+arith
  show FRun tab (l++(n::r.tops)) (m+((ks.nums++r.nums).length+1))
  rw [e1,e2];exact q
section
variable {tab:List (Int×Kvs)} {rc n0:Int} {kv0:Kvs} {ks:Fo} {K:Nat}
theorem St.spok (h:St tab rc n0 kv0 ks K):SpOk tab (some rc) n0 (spR n0 kv0 ks):=spok_of h.t h.nd (Nat.le_trans h.len (by decide)) h.cat
theorem St.fit (h:St tab rc n0 kv0 ks K):(Fo.node n0 kv0 ks .nil).nums.length<=tab.length:=by
 have:=nodup_len h.nd (b:=tab.map (λ zz=>zz.1)) (Fo.T_keys h.t)
 rw [length_map] at this;exact this
theorem St.nl (h:St tab rc n0 kv0 ks K):(flR n0 kv0 ks).length=ks.nl:=by rw [Fo.fl_len];rfl
theorem St.count (h:St tab rc n0 kv0 ks K):∀kvs,tGet tab n0=some kvs->mGetD kvs (Str.ofString "Count") = .int ks.nl:=λ kvs e=>by
 have:=h.t.1;rw [e] at this;f_shut this;exact h.g.2.1
theorem St.at (h:St tab rc n0 kv0 ks K) {i:Nat} (hi:i < ks.nl):∃d s,((spR n0 kv0 ks).filter (λ zz=>zz.pg))[i]? = some s/\s∈spR n0 kv0 ks/\s.pg=true/\(∀kvs,tGet tab n0=some kvs->PAt tab d n0 kvs [] (givenF [] kvs) true i s.n s.kvs s.inh)/\(flR n0 kv0 ks)[i]? = some (s.n,fldsOf (fieldsF s.kvs s.inh)):=by
 revert h;ctx_has tab rc n0 kv0 ks K i
 have h6:=h.len
 have hf:=h.fit
 have e:(Fo.node n0 kv0 ks .nil).nums.length=ks.nums.length+1:=by show (n0::(ks.nums++[])).length=_;simp
 rw [e] at h6 hf
 refine E0_6 (h.t) λ t1 t2 t3 t4 t5 zz=>?_
 refine E0_4 (h.g) λ g1 g2 g3 zz=>?_
 refine E6_3 (Fo.pat ks ([]++[n0]) (givenF [] kv0) (some n0) i t5 g3 (InhOk.nil.given t2) (by simp;lia) (by simp;simp+arith [*]) hi) λ k' kvs' b' lf' d s a b c=>?_
 have e0:(spR n0 kv0 ks).filter (λ zz=>zz.pg)=(Fo.sp ([]++[n0]) (givenF [] kv0) ks).filter (λ zz=>zz.pg):=by
  show List.filter _ (_::(_++[]))=_
  rw [List.filter_cons_of_neg (by simp),append_nil]
 have hs:=c
 rw [←e0] at hs
 have hm:=mem_filter.mp (mem_of_getElem? hs)
 refine ⟨d+1,s,hs,hm.1,hm.2,λ kvs e=>?_,?_⟩
 · have:=t1;rw [e] at this;cases this
   exact .node t4 (InhOk.nil.given t2).len (by simp) (by simp) a b
 · unfold flR
   rw [←Fo.sp_fl _ [] [],getElem?_map,hs];rfl
theorem St.good (h:St tab rc n0 kv0 ks K) (hb:mGetD kv0 kMedia≠.none):∀s∈spR n0 kv0 ks,SpGood (countsF (spR n0 kv0 ks)) s:=by
 refine E0_6 (h.t) λ t1 t2 t3 t4 t5 zz=>?_
 refine E0_3 (Fo.counts _ h.nd) λ c1 c2 zz=>?_
 intro s hs
 have hs':s∈(⟨n0,kv0,[],givenF [] kv0,false⟩:SpR)::(Fo.sp ([]++[n0]) (givenF [] kv0) ks++[]):=hs
 rcases mem_cons.mp hs' with rfl | hs'
 · refine ⟨.root rfl (t2.none h.g.1),⟨ks.nl,c1,?_⟩,λ q=>by f_shut q⟩
   have:=SpCnt.int (s:=⟨n0,kv0,[],givenF [] kv0,false⟩) (c:=ks.nl) rfl h.g.2.1 (Int.natCast_nonneg _)
   simpa using this
 · rw [append_nil] at hs'
   refine Fo.good ks _ _ t5 (by exact h.g.2.2.1) c2 (InhOk.nil.given t2) ?_ s hs'
   rw [givenF_get,if_pos (by decide+kernel),pick_some hb];exact hb
theorem St.frun (h:St tab rc n0 kv0 ks K):FRun tab ks.tops ks.nums.length:=by
 have h6:=h.len
 have e:(Fo.node n0 kv0 ks .nil).nums.length=ks.nums.length+1:=by show (n0::(ks.nums++[])).length=_;simp
 rw [e] at h6
 have:=Fo.frun ks (some n0) [] 0 h.t.2.2.2.2.1 h.g.2.2.1 h.full (by lia) .nil
 simpa using this
end
namespace Fo
noncomputable def flat:List (Int×Kvs)->Fo
 | []=>.nil
 | p::r=>.page p.1 p.2 (flat r)
theorem flat_e:(Fo.flat []=Fo.nil)/\(∀ (p:Int×Kvs) (r:List (Int×Kvs)),Fo.flat (p::r)=Fo.page (Prod.fst p) (Prod.snd p) (Fo.flat r)):=⟨by intros;rfl,by intros;rfl⟩
theorem flat_tops:∀L:List (Int×Kvs),(flat L).tops=L.map (λ zz=>zz.1)
 | []=>rfl
 | p::r=>by simp [flat_e,tops_e,flat_tops r]
theorem flat_nums:∀L:List (Int×Kvs),(flat L).nums=L.map (λ zz=>zz.1)
 | []=>rfl
 | p::r=>by simp [flat_e,nums_e,flat_nums r]
theorem flat_nl:∀L:List (Int×Kvs),(flat L).nl=L.length
 | []=>rfl
 | p::r=>by simp [flat_e,nl_e,flat_nl r]
theorem flat_fl (inh:Kvs):∀L:List (Int×Kvs),fl inh (flat L)=L.map λ p=>(p.1,fldsOf (fieldsF p.2 (givenF inh p.2)))
 | []=>rfl
 | p::r=>by simp [flat_e,fl_e,flat_fl inh r]
theorem flat_sp (ab:List Int) (inh:Kvs):∀L:List (Int×Kvs),sp ab inh (flat L)=L.map λ p=>⟨p.1,p.2,ab,givenF inh p.2,true⟩
 | []=>rfl
 | p::r=>by simp [flat_e,sp_e,flat_sp ab inh r]
theorem flat_T {tab:List (Int×Kvs)}:∀L:List (Int×Kvs),T tab (flat L)↔∀p∈L,tGet tab p.1=some p.2/\GK p.2/\mGetD p.2 kType=mName (Str.ofString "Page")/\mGetD p.2 kCount = .none
 | []=>⟨λ zz zz h=>(nomatch h),λ zz=>trivial⟩
 | p::r=>by
  simp only [flat_e,T_e,flat_T r,mem_cons,forall_eq_or_imp]
  constructor
  · rintro ⟨a,b,c,d,e⟩;exact ⟨⟨a,b,c,d⟩,e⟩
  · rintro ⟨⟨a,b,c,d⟩,e⟩;exact ⟨a,b,c,d,e⟩
theorem flat_S0 {par:Option Int}:∀L:List (Int×Kvs),S0 par (flat L)↔∀p∈L,ParPre par p.2
 | []=>⟨λ zz zz h=>(nomatch h),λ zz=>trivial⟩
 | p::r=>by simp only [flat_e,S0_e,flat_S0 r,mem_cons,forall_eq_or_imp]
theorem flat_full:∀L:List (Int×Kvs),Full (flat L)↔∀p∈L,mGet p.2 kKids=none
 | []=>⟨λ zz zz h=>(nomatch h),λ zz=>trivial⟩
 | p::r=>by simp only [flat_e,Full_e,flat_full r,mem_cons,forall_eq_or_imp]
theorem R.flat {L:List (Int×Kvs)} {f':Fo} {par:Option Int} (h:R par (flat L) f'):∃L',f'=Fo.flat L':=by
 induction L generalizing f' with
 | nil=>exact ⟨[],h.inv⟩
 | cons p r ih=>exact E2_3 h.inv λ kv r' e zz h=>Exists.elim (ih h) λ L' e2=>⟨(p.1,kv)::L',by rw [e,e2];rfl⟩
theorem sp_inh {k:Str} (hk:k∈INHS):∀ (f:Fo) (ab:List Int) (inh:Kvs),∀s∈sp ab inh f,mGetD s.inh k = .none->mGetD inh k = .none
 | nil,_,_,_,h,_=>nomatch h
 | page n kv r,ab,inh,s,h,e=>by
  rcases mem_cons.mp h with rfl | h
  · simp only [givenF_get,if_pos hk] at e
    cases q:mGetD kv k <;> rw [q] at e <;> first | exact e | cases e
  · exact sp_inh hk r ab inh s h e
 | node n kv ks r,ab,inh,s,h,e=>by
  have key:mGetD (givenF inh kv) k = .none->mGetD inh k = .none:=λ e=>by
   simp only [givenF_get,if_pos hk] at e
   cases q:mGetD kv k <;> rw [q] at e <;> first | exact e | cases e
  rcases mem_cons.mp h with rfl | h
  · exact key e
  · rcases mem_append.mp h with h | h
    · exact key (sp_inh hk ks _ _ s h e)
    · exact sp_inh hk r ab inh s h e
theorem sp_page {tab:List (Int×Kvs)}:∀ (f:Fo) (ab:List Int) (inh:Kvs),T tab f->Full f->∀s∈sp ab inh f,s.pg=true->mGet s.kvs kKids=none/\mGetD s.kvs kCount = .none
 | nil,_,_,_,_,_,h,_=>nomatch h
 | page n kv r,ab,inh,ht,hf,s,h,hp=>by
  rcases mem_cons.mp h with rfl | h
  · exact ⟨hf.1,ht.2.2.2.1⟩
  · exact sp_page r ab inh ht.2.2.2.2 hf.2 s h hp
 | node n kv ks r,ab,inh,ht,hf,s,h,hp=>by
  rcases mem_cons.mp h with rfl | h
  · cases hp
  · rcases mem_append.mp h with h | h
    · exact sp_page ks _ _ ht.2.2.2.2.1 hf.2.1 s h hp
    · exact sp_page r ab inh ht.2.2.2.2.2 hf.2.2 s h hp
theorem pgs_subl:∀f:Fo,f.pgs.Sublist f.nums
 | nil=>List.Sublist.refl _
 | page n zz r=>(pgs_subl r).cons_cons _
 | node n zz ks r=>((pgs_subl ks).append (pgs_subl r)).cons _
end Fo
theorem filter_erase {β:Type}:∀ {l:List (Int×β)} {i:Nat} {p:Int×β},(l.map (λ zz=>zz.1)).Nodup->l[i]? = some p->l.filter (λ q=>decide (q.1≠p.1))=l.eraseIdx i
 | [],_,_,_,h=>by f_shut h
 | q::r,0,p,hn,h=>by
  f_shut h
  rw [map_cons,nodup_cons] at hn
  rw [List.filter_cons_of_neg (by simp)]
  exact List.filter_eq_self.mpr λ p hp=>by simpa using λ e:p.1=q.1=>hn.1 (e ▸ mem_map.mpr ⟨p,hp,rfl⟩)
 | q::r,i+1,p,hn,h=>by
  rw [map_cons,nodup_cons] at hn
  have h':r[i]? = some p:=h
  have hm:=mem_of_getElem? h'
  rw [List.filter_cons_of_pos (by simpa using λ e:q.1=p.1=>hn.1 (e ▸ mem_map.mpr ⟨p,hm,rfl⟩)),filter_erase hn.2 h']
  rfl
noncomputable abbrev pgH (kv:Kvs):Kvs:=turnedF kv [(kType,mName (Str.ofString "Page")),(kParent,.none)]
theorem pgH_get (kv:Kvs) (x:Str):mGetD (pgH kv) x=if x=kParent then .none else if x=kType then mName (Str.ofString "Page") else mGetD kv x:=by
 show mGetD (turn1 (turn1 kv (kType,mName (Str.ofString "Page"))) (kParent,.none)) x=_
 rw [turn1_get,turn1_get]
theorem kt_in:kType∈KEYS:=by decide+kernel
theorem kt_ni:kType∉INHS:=by decide+kernel
theorem kTP:kType≠kParent:=by decide+kernel
theorem kTC:kType≠kCount:=by decide+kernel
theorem pgH_gk {kv:Kvs} (g:GK kv):GK (pgH kv):=(g.turn1 (p:=(kType,mName (Str.ofString "Page"))) kt_in (.inr (.name _)) λ q=>absurd q kt_ni).turn1 (p:=(kParent,.none)) kp_in (.inl rfl) λ q=>absurd q kp_ni
structure Own (kv0 own:Kvs):Prop where
 gk:GK own
 kids:mGetD own kKids = .none
 cnt:mGetD own kCount = .none
 par:mGet own kParent=none
 inh:∀k∈INHS,mGetD own k = .none->mGetD kv0 k = .none
theorem Own.up {kv0 kv1 own:Kvs} (h:Own kv0 own) (e:∀k∈INHS,mGetD kv1 k=mGetD kv0 k):Own kv1 own:=⟨h.gk,h.kids,h.cnt,h.par,λ k hk q=>by rw [e k hk];exact h.inh k hk q⟩
theorem pick_none' {a b:MV} (h:pick a b = .none):a = .none/\b = .none:=by
 cases a <;> first | exact ⟨rfl,h⟩ | f_shut h
set_option tactic.hygienic true in
theorem own_fields {kv0 own:Kvs} (h:Own kv0 own):fldsOf (fieldsF (pgH own) (givenF (givenF [] kv0) (pgH own)))=fldsOf own:=by
 refine fldsOf_congr λ k hk=>?_
 have q:=Fo.fk_npc k hk
 have e:mGetD (pgH own) k=mGetD own k:=by rw [pgH_get,if_neg q.1,if_neg q.2.2.2]
 rw [fieldsF_get]
 split
 · rename_i hi
   rw [givenF_get,if_pos hi,givenF_get,if_pos hi,e]
   by_cases e0:mGetD own k = .none
   · rw [e0,h.inh k hi e0];rfl
   · rw [pick_some e0]
 · exact e
section
variable {tab:List (Int×Kvs)} {rc n0:Int} {kv0:Kvs} {ks:Fo} {K:Nat}
theorem St.own (h:St tab rc n0 kv0 ks K) {s:SpR} (hs:s∈spR n0 kv0 ks) (hp:s.pg=true) :
 Own kv0 (turnedF (fieldsF s.kvs s.inh) [(kParent,.none)])/\fldsOf (turnedF (fieldsF s.kvs s.inh) [(kParent,.none)])=fldsOf (fieldsF s.kvs s.inh):=by
 revert h;ctx_has tab rc n0 kv0 ks K s
 refine E0_6 (h.t) λ t1 t2 t3 t4 t5 zz=>?_
 have hs':s∈(⟨n0,kv0,[],givenF [] kv0,false⟩:SpR)::(Fo.sp ([]++[n0]) (givenF [] kv0) ks++[]):=hs
 rw [append_nil] at hs'
 rcases mem_cons.mp hs' with rfl | hs'
 · f_shut hp
 refine E0_3 (Fo.sp_all _ [] [] h.t InhOk.nil s hs) λ g1 g2 zz=>?_
 obtain ⟨p1,p2⟩:=Fo.sp_page ks _ _ t5 h.full s hs' hp
 have gk:GK (turnedF (fieldsF s.kvs s.inh) [(kParent,.none)]):=(g1.fields g2).turn1 (p:=(kParent,.none)) kp_in (.inl rfl) λ q=>absurd q kp_ni
 have hg:∀x,mGetD (turnedF (fieldsF s.kvs s.inh) [(kParent,.none)]) x=if x=kParent then .none else mGetD (fieldsF s.kvs s.inh) x:=λ x=>turned_one _ _ _ x
 refine ⟨⟨gk,?_,?_,gk.none (by rw [hg,if_pos rfl]),λ k hk e=>?_⟩,fldsOf_congr λ k hk=>by rw [hg,if_neg (Fo.fk_npc k hk).1]⟩
 · rw [hg,if_neg (Ne.symm kK_P),fieldsF_get,if_neg kk_ni,mGetD,p1];rfl
 · rw [hg,if_neg (Ne.symm kPC),fieldsF_get,if_neg kc_ni,p2]
 · rw [hg,if_neg (Fo.inh_npc k hk).1,fieldsF_get,if_pos hk] at e
   have e2:=Fo.sp_inh hk ks _ _ s hs' (pick_none' e).2
   rw [givenF_get,if_pos hk] at e2
   exact (pick_none' e2).1
theorem St.rows (h:St tab rc n0 kv0 ks K):((flR n0 kv0 ks).map (λ zz=>zz.1)).Nodup:=by
 rw [Fo.fl_pgs];exact h.nd.sublist (Fo.pgs_subl _)
theorem keysTo_new (K:Nat):((K:Int)+1)∉keysTo K:=λ h=>absurd (keysTo_mem.mp h) (Nat.lt_irrefl _)
theorem tGet_none {tab:List (Int×Kvs)} {n:Int} (h:n∉tab.map (λ zz=>zz.1)):tGet tab n=none:=by
 cases e:tGet tab n with
 | none=>rfl
 | some kv=>exact absurd (tGet_key e) h
theorem tGet_appO {tab:List (Int×Kvs)} {n x:Int} {kvs:Kvs} (h:x∈tab.map (λ zz=>zz.1)):tGet (tab++[(n,kvs)]) x=tGet tab x:=by
 obtain ⟨k,e⟩:=tGet_has h
 rw [tGet_app,e]
theorem keysTo_succ (K:Nat):keysTo (K+1)=keysTo K++[(K:Int)+1]:=by unfold keysTo;rw [List.range_succ,map_append];rfl
theorem St.insert {L:List (Int×Kvs)} (h:St tab rc n0 kv0 (Fo.flat L) K) {own:Kvs} (o:Own kv0 own) {i:Nat} (hi:i<=L.length) (hL:L.length+2<=50)
 {tabA:List (Int×Kvs)} (hA:tabA=tab++[((K:Int)+1,pgH own)]) {L1:List (Int×Kvs)} (hL1:L1=L.take i++[((K:Int)+1,pgH own)]++L.drop i)
 {kv1:Kvs} (hk1:kv1=newK kv0 ((L.map (λ zz=>zz.1)).take i++[(K:Int)+1]++(L.map (λ zz=>zz.1)).drop i)) :
 SpOk tabA (some rc) n0 (spR n0 kv0 (Fo.flat L))/\(∀k∈L.map (λ zz=>zz.1),∃kv,tGet tabA k=some kv)/\SpOk (tPut tabA n0 kv1) (some rc) n0 (spR n0 kv1 (Fo.flat L1))/\(∀s∈spR n0 kv1 (Fo.flat L1),s.kvs.length<=20) /\
 ∃tabF kvF LF,Stl (countsF (spR n0 kv1 (Fo.flat L1))) (tPut tabA n0 kv1) (spR n0 kv1 (Fo.flat L1)) tabF/\St tabF rc n0 kvF (Fo.flat LF) (K+1)/\(∀k∈INHS,mGetD kvF k=mGetD kv0 k) /\
  flR n0 kvF (Fo.flat LF)=(flR n0 kv0 (Fo.flat L)).take i++[((K:Int)+1,fldsOf own)]++(flR n0 kv0 (Fo.flat L)).drop i:=by
 revert h o hi hL hA hL1;ctx_has tab rc n0 kv0 K L own i tabA L1 kv1
 have hnew:((K:Int)+1)∉tab.map (λ zz=>zz.1):=by rw [h.keys];exact keysTo_new K
 have en:(Fo.node n0 kv0 (Fo.flat L) .nil).nums=n0::L.map (λ zz=>zz.1):=by show n0::((Fo.flat L).nums++[])=_;rw [append_nil,Fo.flat_nums]
 have en1:(Fo.node n0 kv1 (Fo.flat L1) .nil).nums=n0::L1.map (λ zz=>zz.1):=by show n0::((Fo.flat L1).nums++[])=_;rw [append_nil,Fo.flat_nums]
 have hin:∀x∈n0::L.map (λ zz=>zz.1),x∈tab.map (λ zz=>zz.1):=λ x hx=>Fo.T_keys h.t x (by rw [en];exact hx)
 have hne:∀x∈n0::L.map (λ zz=>zz.1),x≠(K:Int)+1:=λ x hx e=>hnew (e ▸ hin x hx)
 have eA:∀x∈n0::L.map (λ zz=>zz.1),tGet tabA x=tGet tab x:=λ x hx=>by rw [hA];exact tGet_appO (hin x hx)
 have eA1:tGet tabA ((K:Int)+1)=some (pgH own):=by rw [hA,tGet_app,tGet_none hnew];simp
 refine E1_2 (h.cat) λ ck cat1 cat2=>?_
 have catA:tGet tabA rc=some ck:=by rw [hA,tGet_appO (tGet_key cat1)];exact cat1
 have hrcn:=h.rcn
 have hnd:=h.nd
 have hlen:=h.len
 rw [en] at hrcn hnd hlen
 have tA:Fo.T tabA (.node n0 kv0 (Fo.flat L) .nil):=h.t.congr λ x hx=>eA x (by rw [←en];exact hx)
 have em:L1.map (λ zz=>zz.1)=(L.map (λ zz=>zz.1)).take i++[(K:Int)+1]++(L.map (λ zz=>zz.1)).drop i:=by rw [hL1];simp
 have hL1l:L1.length=L.length+1:=by rw [hL1];simp;simp+arith [*]
 have hmem:∀p∈L1,p=((K:Int)+1,pgH own)\/p∈L:=λ p hp=>by
  rw [hL1] at hp
  simp only [mem_append,mem_singleton] at hp
  rcases hp with (hp | hp) | hp
  · exact .inr (List.mem_of_mem_take hp)
  · exact .inl hp
  · exact .inr (List.mem_of_mem_drop hp)
 have hnn:n0∉L.map (λ zz=>zz.1):=(nodup_cons.mp hnd).1
 have hnd1:(n0::L1.map (λ zz=>zz.1)).Nodup:=by
  have hp:(L1.map (λ zz=>zz.1)).Perm (((K:Int)+1)::L.map (λ zz=>zz.1)):=by
   rw [em,append_assoc]
   refine (List.perm_middle).trans ?_
   show (((K:Int)+1)::((L.map (λ zz=>zz.1)).take i++(L.map (λ zz=>zz.1)).drop i)).Perm _
   rw [List.take_append_drop]
  refine nodup_cons.mpr ⟨λ q=>?_,hp.nodup_iff.mpr (nodup_cons.mpr ⟨λ q=>hne _ (.tail _ q) rfl,(nodup_cons.mp hnd).2⟩)⟩
  rcases mem_cons.mp (hp.subset q) with e | e
  · exact hne n0 (.head _) e
  · exact hnn e
 have hlen1:(n0::L1.map (λ zz=>zz.1)).length<=50:=by simp [hL1l];lia
 have hk60:((L.map (λ zz=>zz.1)).take i++[(K:Int)+1]++(L.map (λ zz=>zz.1)).drop i).length<=60:=by rw [←em,length_map,hL1l];lia
 have key:∀x,tGet (tPut tabA n0 kv1) x=if x=n0 then some kv1 else tGet tabA x:=λ x=>tGet_put ..
 refine E0_6 (h.t) λ t1 t2 t3 t4 t5 zz=>?_
 have hfl:=(Fo.flat_T L).mp t5
 have gk1:GK kv1:=by rw [hk1];exact newK_gk t2 hk60
 have tB:Fo.T (tPut tabA n0 kv1) (.node n0 kv1 (Fo.flat L1) .nil):=by
  refine ⟨by rw [key,if_pos rfl],gk1,?_,?_,(Fo.flat_T L1).mpr λ p hp=>?_,trivial⟩
  · rw [hk1,newK_get,if_neg kK_T];exact t3
  · rw [hk1,newK_get,if_pos rfl,Fo.flat_tops,em]
  · rcases hmem p hp with rfl | hp
    · refine ⟨?_,pgH_gk o.gk,?_,?_⟩
      · rw [key,if_neg λ e=>hne n0 (.head _) e.symm];exact eA1
      · rw [pgH_get,if_neg kTP,if_pos rfl]
      · rw [pgH_get,if_neg (Ne.symm kPC),if_neg (Ne.symm kTC)];exact o.cnt
    · refine E0_4 (hfl p hp) λ a b c d=>?_
      have hpm:p.1∈L.map (λ zz=>zz.1):=mem_map.mpr ⟨p,hp,rfl⟩
      exact ⟨by rw [key,if_neg λ e:p.1=n0=>hnn (by rw [←e];exact hpm),eA _ (.tail _ hpm)];exact a,b,c,d⟩
 have hrc1:rc∉n0::L1.map (λ zz=>zz.1):=λ q=>by
  rcases mem_cons.mp q with q | q
  · exact hrcn (q ▸ .head _)
  · refine E1_2 (mem_map.mp q) λ p hp e=>?_
    rcases hmem p hp with rfl | hp
    · exact hnew (by rw [show ((K:Int)+1)=rc from e];exact tGet_key cat1)
    · exact hrcn (.tail _ (mem_map.mpr ⟨p,hp,e⟩))
 have catB:∃kvs,tGet (tPut tabA n0 kv1) rc=some kvs/\mGet kvs kPages=some (mRef n0):=⟨ck,by rw [key,if_neg λ e:rc=n0=>hrcn (by rw [e];exact .head _)];exact catA,cat2⟩
 have s0:Fo.S0 none (.node n0 kv1 (Fo.flat L1) .nil):=by
  refine E0_4 (Fo.G.s0 h.t h.g) λ g1 g2 g3 zz=>?_
  refine ⟨by rw [hk1];exact newK_par g1,by rw [hk1];exact newK_cnt g2,(Fo.flat_S0 L1).mpr λ p hp=>?_,trivial⟩
  rcases hmem p hp with rfl | hp
  · exact .inl ((pgH_gk o.gk).none (by rw [pgH_get,if_pos rfl]))
  · exact (Fo.flat_S0 L).mp g3 p hp
 have full1:Fo.Full (Fo.flat L1):=(Fo.flat_full L1).mpr λ p hp=>by
  rcases hmem p hp with rfl | hp
  · exact (pgH_gk o.gk).none (by rw [pgH_get,if_neg (Ne.symm kK_P),if_neg (Ne.symm kK_T)];exact o.kids)
  · exact (Fo.flat_full L).mp h.full p hp
 have gtB:GT (tPut tabA n0 kv1):=by rw [hA];exact (h.gt.app (pgH_gk o.gk)).put gk1
 have keysB:(tPut tabA n0 kv1).map (λ zz=>zz.1)=keysTo (K+1):=by
  rw [tPut_keys ((eA n0 (.head _)).trans t1),hA,map_append,h.keys,keysTo_succ];rfl
 refine E3_6 (settled tB s0 (by rw [en1];exact hnd1) (by rw [en1];exact hlen1) full1 gtB catB (by rw [en1];exact hrc1) keysB) λ tabF kvF ksF z1 z2 z3 z4 z5 zz=>?_
 obtain ⟨LF,rfl⟩:=Fo.R.flat z5
 refine ⟨spok_of tA (by rw [en];exact hnd) (by rw [en];exact Nat.lt_of_lt_of_le (by assumption) (by decide)) ⟨ck,catA,cat2⟩,λ k hk=>?_,spok_of tB (by rw [en1];exact hnd1) (by rw [en1];exact Nat.lt_of_lt_of_le (by assumption) (by decide)) catB,λ s hs=>(hd_of tB s hs).1.len,tabF,kvF,LF,z1,z2,λ k hk=>?_,?_⟩
 · rw [eA k (.tail _ hk)];exact tGet_has (hin k (.tail _ hk))
 · have q:=Fo.inh_npc k hk
   rw [z3 k q.1 q.2.1,hk1,newK_get,if_neg q.2.2.1]
 · have efl:∀ (k:Kvs) (x:Fo),flR n0 k x=Fo.fl (givenF [] k) x:=λ k x=>by show _++[]=_;rw [append_nil]
   rw [z4,efl,efl,hk1,newK_inh,Fo.flat_fl,Fo.flat_fl,hL1,map_append,map_append,List.map_take,List.map_drop]
   simp only [map_cons,List.map_nil]
   rw [own_fields o]
end
namespace Fo
noncomputable def takeT:Nat->Fo->Fo
 | 0,_=>nil
 | _+1,nil=>nil
 | c+1,page n kv r=>page n kv (takeT c r)
 | c+1,node n kv ks r=>node n kv ks (takeT c r)
theorem takeT_e:(∀ (x:Fo),Fo.takeT 0 x=Fo.nil)/\(∀ (n:Nat),Fo.takeT (Nat.succ n) Fo.nil=Fo.nil)/\(∀ (c:Nat) (n:Int) (kv:Kvs) (r:Fo),Fo.takeT (Nat.succ c) (Fo.page n kv r)=Fo.page n kv (Fo.takeT c r))/\(∀ (c:Nat) (n:Int) (kv:Kvs) (ks r:Fo),Fo.takeT (Nat.succ c) (Fo.node n kv ks r)=Fo.node n kv ks (Fo.takeT c r)):=⟨by intros;rfl,by intros;rfl,by intros;rfl,by intros;rfl⟩
noncomputable def dropT:Nat->Fo->Fo
 | 0,f=>f
 | _+1,nil=>nil
 | c+1,page _ _ r=>dropT c r
 | c+1,node _ _ _ r=>dropT c r
theorem dropT_e:(∀ (x:Fo),Fo.dropT 0 x=x)/\(∀ (n:Nat),Fo.dropT (Nat.succ n) Fo.nil=Fo.nil)/\(∀ (c:Nat) (n:Int) (kv:Kvs) (r:Fo),Fo.dropT (Nat.succ c) (Fo.page n kv r)=Fo.dropT c r)/\(∀ (c:Nat) (n:Int) (kv:Kvs) (ks r:Fo),Fo.dropT (Nat.succ c) (Fo.node n kv ks r)=Fo.dropT c r):=⟨by intros;rfl,by intros;rfl,by intros;rfl,by intros;rfl⟩
theorem take_tops:∀ (c:Nat) (f:Fo),(takeT c f).tops=f.tops.take c
 | 0,f=>by trivial
 | _+1,nil=>rfl
 | c+1,page n kv r=>by simp [takeT_e,tops_e,take_tops c r]
 | c+1,node n kv ks r=>by simp [takeT_e,tops_e,take_tops c r]
theorem drop_tops:∀ (c:Nat) (f:Fo),(dropT c f).tops=f.tops.drop c
 | 0,f=>by trivial
 | _+1,nil=>rfl
 | c+1,page n kv r=>by simp [dropT_e,tops_e,drop_tops c r]
 | c+1,node n kv ks r=>by simp [dropT_e,tops_e,drop_tops c r]
theorem cut_nums:∀ (c:Nat) (f:Fo),(takeT c f).nums++(dropT c f).nums=f.nums
 | 0,f=>by trivial
 | _+1,nil=>rfl
 | c+1,page n kv r=>by simp [takeT_e,dropT_e,nums_e,cut_nums c r]
 | c+1,node n kv ks r=>by simp [takeT_e,dropT_e,nums_e,cut_nums c r]
theorem cut_nl:∀ (c:Nat) (f:Fo),(takeT c f).nl+(dropT c f).nl=f.nl
 | 0,f=>by simp [takeT_e,dropT_e,nl_e]
 | _+1,nil=>rfl
 | c+1,page n kv r=>by have:=cut_nl c r;simp [takeT_e,dropT_e,nl_e];lia
 | c+1,node n kv ks r=>by have:=cut_nl c r;simp [takeT_e,dropT_e,nl_e];lia
theorem cut_T {tab:List (Int×Kvs)} (c:Nat) (f:Fo) (t:T tab f):T tab (takeT c f)/\T tab (dropT c f):=by
 induction c generalizing f with
 | zero=>exact ⟨trivial,t⟩
 | succ c ih =>
  rcases f with _ | ⟨n,kv,r⟩ | ⟨n,kv,ks,r⟩
  · exact ⟨trivial,trivial⟩
  · exact E0_5 t λ a b d e f=>⟨⟨a,b,d,e,(ih r f).1⟩,(ih r f).2⟩
  · exact E0_6 t λ a b d e f g=>⟨⟨a,b,d,e,f,(ih r g).1⟩,(ih r g).2⟩
theorem cut_S0 {par:Option Int} (c:Nat) (f:Fo) (t:S0 par f):S0 par (takeT c f)/\S0 par (dropT c f):=by
 induction c generalizing f with
 | zero=>exact ⟨trivial,t⟩
 | succ c ih =>
  rcases f with _ | ⟨n,kv,r⟩ | ⟨n,kv,ks,r⟩
  · exact ⟨trivial,trivial⟩
  · exact ⟨⟨t.1,(ih r t.2).1⟩,(ih r t.2).2⟩
  · exact E0_4 t λ a b d e=>⟨⟨a,b,d,(ih r e).1⟩,(ih r e).2⟩
theorem cut_full:∀ (c:Nat) (f:Fo),Full f->Full (takeT c f)/\Full (dropT c f)
 | 0,f,h=>⟨trivial,h⟩
 | _+1,nil,_=>⟨trivial,trivial⟩
 | c+1,page n kv r,⟨a,b⟩=>⟨⟨a,(cut_full c r b).1⟩,(cut_full c r b).2⟩
 | c+1,node n kv ks r,⟨a,b,d⟩=>⟨⟨a,b,(cut_full c r d).1⟩,(cut_full c r d).2⟩
noncomputable def grp (k:Nat) (b:Nat->Nat) (hd:Nat->Kvs):Nat->Nat->Fo->Fo
 | 0,_,_=>nil
 | c+1,i,f=>node ((k+i:Nat)+1) (hd i) (takeT (b (i+1) - b i) f) (grp k b hd c (i+1) (dropT (b (i+1) - b i) f))
structure Lev (tab:List (Int×Kvs)) (l:List Int) (f:Fo) (P:Nat):Prop where
 tops:f.tops=l
 t:T tab f
 nd:f.nums.Nodup
 all:∀x,x∈tab.map (λ zz=>zz.1)->x∈f.nums
 inn:∀x∈f.nums,x∈tab.map (λ zz=>zz.1)
 full:Full f
 s0:∀par,S0 par f
 gt:GT tab
 keys:tab.map (λ zz=>zz.1)=keysTo tab.length
 nl:f.nl=P
theorem grp_ok {tab:List (Int×Kvs)} {k many:Nat} {b:Nat->Nat} {hd:Nat->Kvs} {l:List Int} (hb:∀i,i < many->b i < b (i+1)) (hrow:∀i,i < many->tGet tab (((k+i:Nat):Int)+1)=some (hd i)/\GK (hd i)/\mGetD (hd i) kType=mName (Str.ofString "Pages")/\mGetD (hd i) kKids=mRefs ((l.drop (b i)).take (b (i+1) - b i))/\mGet (hd i) kParent=none/\CntPre (hd i))
 (hbl:∀i,i<=many->b i<=l.length) :
 ∀ (c i:Nat) (f:Fo),i+c=many->f.tops=l.drop (b i)->b many=l.length->T tab f->Full f->(∀par,S0 par f)->f.nums.Nodup->(∀x∈f.nums,x<=k) ->
  T tab (grp k b hd c i f)/\Full (grp k b hd c i f)/\(∀par,S0 par (grp k b hd c i f))/\(grp k b hd c i f).nums.Nodup/\(∀x,x∈(grp k b hd c i f).nums↔(x∈f.nums\/∃j,i<=j/\j < many/\x=((k+j:Nat):Int)+1)) /\
  (grp k b hd c i f).tops=(List.range c).map (λ j=>((k+(i+j):Nat):Int)+1)/\(grp k b hd c i f).nl=f.nl
 | 0,i,f,hi,hf,hm,ht,hu,hs,hn,hk=>by
  have e:i=many:=by omega
  subst e
  rw [hm,List.drop_length] at hf
  have hnil:f=nil:=by cases f <;> trivial
  subst hnil
  exact ⟨trivial,trivial,λ zz=>trivial,List.Pairwise.nil,λ x=>⟨λ h=>(nomatch h),λ h=>by
   rcases h with h | ⟨j,h1,h2,_⟩
   · exact h
   · lia⟩,rfl,rfl⟩
 | c+1,i,f,hi,hf,hm,ht,hu,hs,hn,hk=>by
  have him:i < many:=by lia
  refine E0_6 (hrow i him) λ r1 r2 r3 r4 r5 r6=>?_
  have hbi:=hb i him
  have hbl1:=hbl (i+1) (by assumption)
  have hT:=cut_T (b (i+1) - b i) f ht
  have hF:=cut_full (b (i+1) - b i) f hu
  have hN:=cut_nums (b (i+1) - b i) f
  have hn':=hn
  rw [←hN] at hn'
  refine E0_3 (nodup_append.mp hn') λ n1 n2 n3=>?_
  have hsub1:∀x∈(takeT (b (i+1) - b i) f).nums,x∈f.nums:=λ x hx=>by rw [←hN];exact mem_append_left _ hx
  have hsub2:∀x∈(dropT (b (i+1) - b i) f).nums,x∈f.nums:=λ x hx=>by rw [←hN];exact mem_append_right _ hx
  have htd:(dropT (b (i+1) - b i) f).tops=l.drop (b (i+1)):=by
   rw [drop_tops,hf,List.drop_drop];congr 1;lia
  refine E0_7 (grp_ok hb hrow hbl c (i+1) (dropT (b (i+1) - b i) f) (by lia) htd hm hT.2 hF.2 (λ par=>(cut_S0 _ f (hs par)).2) n2 (λ x hx=>hk x (hsub2 x hx))) λ g1 g2 g3 g4 g5 g6 g7=>?_
  have htt:(takeT (b (i+1) - b i) f).tops=(l.drop (b i)).take (b (i+1) - b i):=by rw [take_tops,hf]
  have hpos:(takeT (b (i+1) - b i) f).tops≠[]:=by
   rw [htt];intro e
   have:=congrArg List.length e
   simp at this;lia
  have hnew:∀j,((k+j:Nat):Int)+1∉f.nums:=λ j q=>by have:=hk _ q;lia
  refine ⟨⟨r1,r2,r3,by rw [htt];exact r4,hT.1,g1⟩,⟨tops_nl hF.1 hpos,hF.1,g2⟩,λ par=>⟨by cases par;exact r5;exact .inl r5,r6,(cut_S0 _ f (hs _)).1,g3 par⟩,?_,λ x=>?_,?_,?_⟩
  · show (_::(_++_)).Nodup
    refine nodup_cons.mpr ⟨λ q=>?_,nodup_append.mpr ⟨n1,g4,λ x hx y hy e=>?_⟩⟩
    · rcases mem_append.mp q with q | q
      · exact hnew i (hsub1 _ q)
      · rcases (g5 _).mp q with q | ⟨j,h1,h2,h3⟩
        · exact hnew i (hsub2 _ q)
        · lia
    · subst e
      rcases (g5 _).mp hy with q | ⟨j,h1,h2,h3⟩
      · exact n3 x hx x q rfl
      · exact hnew j (h3 ▸ hsub1 x hx)
  · show x∈(_::(_++_))↔_
    rw [mem_cons,mem_append,g5,← hN,mem_append]
    constructor
    · rintro (rfl | h | h | ⟨j,h1,h2,h3⟩)
      · exact .inr ⟨i,Nat.le_refl _,him,rfl⟩
      · exact .inl (.inl h)
      · exact .inl (.inr h)
      · exact .inr ⟨j,by exact Nat.le_of_lt (by assumption),h2,h3⟩
    · rintro ((h | h) | ⟨j,h1,h2,h3⟩)
      · exact .inr (.inl h)
      · exact .inr (.inr (.inl h))
      · by_cases e:j=i
        · subst e;exact .inl h3
        · exact .inr (.inr (.inr ⟨j,by lia,h2,h3⟩))
  · show _::_=_
    rw [g6,List.range_succ_eq_map,map_cons,map_map]
    congr 1
    refine List.map_congr_left λ j zz=>?_
    simp only [Function.comp]
    congr 2
    simp+arith
  · show (takeT _ f).nl+_=_
    rw [g7,cut_nl]
end Fo
theorem nd_get (ks:List Int) (x:Str):mGetD (ndHead ks) x=if x=kType then mName (Str.ofString "Pages") else if x=kKids then mRefs ks else .none:=by
 unfold ndHead mGetD mGet
 by_cases h1:x=kType
 · subst h1;trivial
 · by_cases h2:x=kKids
   · subst h2
     have h2:¬ kType=kKids:=kK_T
     have h3:¬ kKids=kType:=Ne.symm kK_T
     trivial
   · have a:¬ kType=x:=λ e=>h1 e.symm
     have b:¬ kKids=x:=λ e=>h2 e.symm
     simp [a,b,h1,h2,List.find?_cons]
theorem nd_gk {ks:List Int} (h:ks.length<=60):GK (ndHead ks):=by
 have e:ndHead ks=mPut (mPut [] kType (mName (Str.ofString "Pages"))) kKids (mRefs ks):=rfl
 rw [e]
 exact (GK.nil.put kt_in (.name _) λ q=>absurd q kt_ni).put kk_in (refs_flat h) λ q=>absurd q kk_ni
theorem nd_row {ks:List Int} (h:ks.length<=60):GK (ndHead ks)/\mGetD (ndHead ks) kType=mName (Str.ofString "Pages")/\mGetD (ndHead ks) kKids=mRefs ks/\mGet (ndHead ks) kParent=none/\CntPre (ndHead ks) :=
 ⟨nd_gk h,by rw [nd_get,if_pos rfl],by rw [nd_get,if_neg (Ne.symm kK_T),if_pos rfl],(nd_gk h).none (by rw [nd_get,if_neg (Ne.symm kTP),if_neg kK_P]),.inl (by rw [nd_get,if_neg (Ne.symm kTC),if_neg kK_C])⟩
theorem app_get (tab:List (Int×Kvs)) (hk:tab.map (λ zz=>zz.1)=keysTo tab.length) (h:Kvs) (x:Int):tGet (app tab h) x=if x=(tab.length:Int)+1 then some h else tGet tab x:=by
 unfold app
 rw [tGet_app]
 by_cases e:x=(tab.length:Int)+1
 · subst e
   have q:=tGet_none (tab:=tab) (n:=(tab.length:Int)+1) (by rw [hk];exact keysTo_new _)
   simp [q]
 · cases q:tGet tab x <;> simp [e]
theorem apps_get:∀ (hs:List Kvs) (tab:List (Int×Kvs)),tab.map (λ zz=>zz.1)=keysTo tab.length->(∀x,x∈tab.map (λ zz=>zz.1)->tGet (hs.foldl app tab) x=tGet tab x)/\(∀i (h:i < hs.length),tGet (hs.foldl app tab) (((tab.length+i:Nat):Int)+1)=some hs[i])
 | [],tab,_=>⟨λ zz zz=>rfl,λ i h=>absurd h (Nat.not_lt_zero _)⟩
 | h::r,tab,hk=>by
  obtain ⟨a,b⟩:=apps_get r (app tab h) (app_keys hk h)
  have hnew:((tab.length:Int)+1)∉tab.map (λ zz=>zz.1):=by rw [hk];exact keysTo_new _
  have hmem:(app tab h).map (λ zz=>zz.1)=tab.map (λ zz=>zz.1)++[(tab.length:Int)+1]:=by unfold app;rw [map_append];rfl
  refine ⟨λ x hx=>?_,λ i hi=>?_⟩
  · rw [foldl_cons,a x (by rw [hmem];exact mem_append_left _ hx),app_get tab hk,if_neg λ e:x=(tab.length:Int)+1=>hnew (by rw [←e];exact hx)]
  · induction i with
    | zero =>
     rw [foldl_cons,Nat.add_zero,a _ (by rw [hmem];exact mem_append_right _ (.head _)),app_get tab hk,if_pos rfl];rfl
    | succ i =>
     have:=b i (Nat.lt_of_succ_lt_succ hi)
     rw [app_len] at this
     rw [foldl_cons,show tab.length+(i+1)=tab.length+1+i by simp+arith,this];rfl
theorem GT.apps:∀ (hs:List Kvs) {tab:List (Int×Kvs)},GT tab->(∀h∈hs,GK h)->GT (hs.foldl Mine.app tab)
 | [],_,g,_=>g
 | h::r,_,g,hh=>GT.apps r (GT.app g (hh h (.head _))) λ x hx=>hh x (.tail _ hx)
theorem keysTo_le {k:Nat} {x:Int} (h:x∈keysTo k):1<=x/\x<=k:=by
 unfold keysTo at h
 refine E1_2 (mem_map.mp h) λ i hi e3_2=>?_;subst e3_2
 have:=List.mem_range.mp hi
 lia
theorem keysTo_in {k:Nat} {x:Int} (h1:1<=x) (h2:x<=k):x∈keysTo k:=by
 unfold keysTo
 exact mem_map.mpr ⟨(x - 1).toNat,List.mem_range.mpr (by lia),by lia⟩
theorem div_lt {a m i:Nat} (hm:0 < m) (h:m<=a):i * a / m < (i+1) * a / m:=by
 have:i * a / m+1<=(i+1) * a / m:=by
  rw [←Nat.add_div_right _ hm]
  exact Nat.div_le_div_right (by rw [Nat.add_mul];simp+arith [*])
 assumption
theorem lev_step {tab:List (Int×Kvs)} {l:List Int} {f:Fo} {P many:Nat} (h:Fo.Lev tab l f P) (hm0:0 < many) (hml:many<=l.length) (hl:l.length<=60) :
 ∃f',Fo.Lev (((List.range many).map λ i=>ndHead (cutI l many i)).foldl app tab) (nxt tab.length many) f' P:=by
 ctx_has tab l f P many
 have hks:=h.keys
 obtain ⟨a1,a2⟩:=apps_get ((List.range many).map λ i=>ndHead (cutI l many i)) tab hks
 have hlen:(((List.range many).map λ i=>ndHead (cutI l many i)).foldl app tab).length=tab.length+many:=by rw [apps_len];simp
 have hkeys:=apps_keys ((List.range many).map λ i=>ndHead (cutI l many i)) hks
 have hc:∀i,(cutI l many i).length<=60:=λ i=>by unfold cutI;rw [length_take,List.length_drop];exact Nat.le_trans (Nat.min_le_right _ _) (Nat.le_trans (Nat.sub_le _ _) hl)
 have hT:Fo.T (((List.range many).map λ i=>ndHead (cutI l many i)).foldl app tab) f:=h.t.congr λ x hx=>a1 x (h.inn x hx)
 obtain ⟨g1,g2,g3,g4,g5,g6,g7⟩:=Fo.grp_ok (tab:=((List.range many).map λ i=>ndHead (cutI l many i)).foldl app tab) (k:=tab.length) (many:=many) (b:=λ i=>i * l.length / many) (hd:=λ i=>ndHead (cutI l many i)) (l:=l)
  (λ i zz=>div_lt hm0 hml) (λ i hi=>by
   ctx_has i
   obtain ⟨b1,b2,b3,b4,b5⟩:=nd_row (hc i)
   refine ⟨?_,b1,b2,b3,b4,b5⟩
   have:=a2 i (by simpa using hi)
   rw [this];simp)
  (λ i hi=>Nat.div_le_of_le_mul (Nat.mul_le_mul_right _ hi))
  many 0 f (Nat.zero_add _) (by simp [h.tops]) (by rw [Nat.mul_comm];exact Nat.mul_div_cancel _ hm0) hT h.full h.s0 h.nd (λ x hx=>by
   have:=h.inn x hx;rw [hks] at this;exact (keysTo_le this).2)
 have hin:∀x,x∈(((List.range many).map λ i=>ndHead (cutI l many i)).foldl app tab).map (λ zz=>zz.1)↔(x∈tab.map (λ zz=>zz.1)\/∃j,0<=j/\j < many/\x=((tab.length+j:Nat):Int)+1):=λ x=>by
  ctx_has x
  rw [hkeys,hlen,hks]
  constructor
  · intro q
    have:=keysTo_le q
    by_cases e:x<=tab.length
    · exact .inl (keysTo_in this.1 e)
    · exact .inr ⟨(x - 1 - tab.length).toNat,Nat.zero_le _,by lia,by lia⟩
  · rintro (q | ⟨j,_,h2,rfl⟩)
    · have:=keysTo_le q;exact keysTo_in this.1 (by lia)
    · exact keysTo_in (by lia) (by lia)
 refine ⟨_,⟨?_,g1,g4,λ x hx=>?_,λ x hx=>?_,g2,g3,GT.apps _ h.gt (λ q hq=>by obtain ⟨i,_,rfl⟩:=mem_map.mp hq;exact nd_gk (hc i)),by rw [hkeys],g7.trans h.nl⟩⟩
 · rw [g6];unfold nxt;refine List.map_congr_left λ i zz=>?_;rw [Nat.zero_add]
 · exact (g5 x).mpr (((hin x).mp hx).imp (h.all x) id)
 · exact (hin x).mpr (((g5 x).mp hx).imp (h.inn x) id)
theorem lv_ex (w0:Nat) (hw:2<=w0):∀ (c:Nat) (tab:List (Int×Kvs)) (l:List Int) (f:Fo) (P:Nat),l.length<=c->0 < l.length->l.length<=60->Fo.Lev tab l f P ->
 ∃tabL lL fL,Lv w0 tab l tabL lL/\Fo.Lev tabL lL fL P/\0 < lL.length/\lL.length<=60/\tabL.length<=tab.length+2 * l.length
 | 0,_,_,_,_,h,h0,_,_=>by lia
 | c+1,tab,l,f,P,h,h0,hl,hv=>by
  by_cases hc:l.length<=w0
  · exact ⟨tab,l,f,.done hc,hv,h0,hl,by exact Nat.le_add_right _ _⟩
  · obtain ⟨many,hm⟩:∃m,(l.length+w0 - 1) / w0=m:=⟨_,rfl⟩
    have hm0:0 < many:=by rw [←hm];exact Nat.div_pos (by lia) (by exact Nat.le_of_lt (by assumption))
    have hm2:2 * many<=l.length+1:=by
     have h1:many * w0<=l.length+w0 - 1:=by rw [←hm];exact Nat.div_mul_le_self _ _
     have h2:many * 2+many * (w0 - 2)=many * w0:=by rw [←Nat.mul_add];congr 1;simp+arith [*]
     have h3:1 * (w0 - 2)<=many * (w0 - 2):=Nat.mul_le_mul_right _ hm0
     lia
    obtain ⟨f',hf'⟩:=lev_step hv hm0 (by lia) hl
    refine E3_5 (lv_ex w0 hw c _ _ f' P (by rw [nxt_len];lia) (by rw [nxt_len];exact hm0) (by rw [nxt_len];lia) hf') λ tabL lL fL b1 b2 b3 b4 b5=>?_
    refine ⟨tabL,lL,fL,.step (by lia) hm b1,b2,b3,b4,?_⟩
    rw [apps_len,nxt_len] at b5
    simp at b5
    lia
structure DrawOk (kv:Kvs):Prop where
 gk:GK kv
 kids:mGetD kv kKids = .none
 cnt:mGetD kv kCount = .none
theorem tGet_of_mem:∀ {tab:List (Int×Kvs)},(tab.map (λ zz=>zz.1)).Nodup->∀p∈tab,tGet tab p.1=some p.2
 | [],_,_,h=>nomatch h
 | q::r,hn,p,h=>by
  rw [map_cons,nodup_cons] at hn
  rcases mem_cons.mp h with rfl | h
  · simp [tGet]
  · have hne:¬ q.1=p.1:=λ e=>hn.1 (e ▸ mem_map.mpr ⟨p,h,rfl⟩)
    have:=tGet_of_mem hn.2 p h
    simp [tGet,hne] at this ⊢
    exact this
theorem keysTo_nd (k:Nat):(keysTo k).Nodup:=by
 unfold keysTo
 exact (List.nodup_range (n:=k)).map (f:=λ i:Nat=>(i:Int)+1) (by intro a b h e;exact h (by lia))
theorem apps_mem:∀ (hs:List Kvs) (tab:List (Int×Kvs)) (p:Int×Kvs),p∈hs.foldl app tab->p∈tab\/p.2∈hs
 | [],_,_,h=>.inl h
 | q::r,tab,p,h=>by
  rcases apps_mem r _ p h with h | h
  · rcases mem_append.mp h with h | h
    · exact .inl h
    · rw [mem_singleton.mp h];exact .inr (.head _)
  · exact .inr (.tail _ h)
theorem lev_first {ps:List Kvs} (hp:∀kv∈ps,DrawOk kv):Fo.Lev ((ps.map pgHead).foldl app []) (nxt 0 ps.length) (Fo.flat ((ps.map pgHead).foldl app [])) ps.length:=by
 ctx_has ps
 have hk:=apps_keys (ps.map pgHead) (tab:=[]) rfl
 have hlen:((ps.map pgHead).foldl app []).length=ps.length:=by rw [apps_len];simp
 have hm:∀p∈(ps.map pgHead).foldl app [],∃kv∈ps,p.2=pgH kv:=λ p h=>by
  rcases apps_mem _ _ p h with h | h
  · f_shut h
  · refine E1_2 (mem_map.mp h) λ kv a b=>?_;exact ⟨kv,a,b.symm⟩
 have hnd:(((ps.map pgHead).foldl app []).map (λ zz=>zz.1)).Nodup:=by rw [hk];exact keysTo_nd _
 refine ⟨?_,(Fo.flat_T _).mpr λ p h=>?_,by rw [Fo.flat_nums];exact hnd,λ x hx=>by rw [Fo.flat_nums];exact hx,λ x hx=>by rw [Fo.flat_nums] at hx;exact hx,(Fo.flat_full _).mpr λ p h=>?_,λ par=>(Fo.flat_S0 _).mpr λ p h=>?_,λ p h=>?_,hk,by rw [Fo.flat_nl,hlen]⟩
 · rw [Fo.flat_tops,hk,hlen];unfold keysTo nxt;refine List.map_congr_left λ i zz=>?_;rw [Nat.zero_add]
 · refine E1_2 (hm p h) λ kv a b=>?_
   have d:=hp kv a
   rw [b]
   refine ⟨by rw [←b];exact tGet_of_mem hnd p h,pgH_gk d.gk,by rw [pgH_get,if_neg kTP,if_pos rfl],by rw [pgH_get,if_neg (Ne.symm kPC),if_neg (Ne.symm kTC)];exact d.cnt⟩
 · refine E1_2 (hm p h) λ kv a b=>?_
   have d:=hp kv a
   rw [b]
   exact (pgH_gk d.gk).none (by rw [pgH_get,if_neg (Ne.symm kK_P),if_neg (Ne.symm kK_T)];exact d.kids)
 · refine E1_2 (hm p h) λ kv a b=>?_
   have e:mGet p.2 kParent=none:=by rw [b];exact (pgH_gk (hp kv a).gk).none (by rw [pgH_get,if_pos rfl])
   f_shut par;exact e;exact .inl e
 · refine E1_2 (hm p h) λ kv a b=>?_
   rw [b];exact pgH_gk (hp kv a).gk
noncomputable abbrev catH (n0:Int):Kvs:=turnedF [] [(Str.ofString "Type",mName (Str.ofString "Catalog")),(Str.ofString "Pages",mRef n0)]
theorem cat_eq (n0:Int):catH n0=mPut (mPut [] kType (mName (Str.ofString "Catalog"))) kPages (mRef n0):=rfl
theorem kg_in:kPages∈KEYS:=by decide+kernel
theorem kg_ni:kPages∉INHS:=by decide+kernel
theorem cat_gk (n0:Int):GK (catH n0):=by
 rw [cat_eq];exact (GK.nil.put kt_in (.name _) λ q=>absurd q kt_ni).put kg_in (.ref _) λ q=>absurd q kg_ni
theorem cat_pages (n0:Int):mGet (catH n0) kPages=some (mRef n0):=by rw [cat_eq,mGet_put,if_pos rfl]
theorem cat_kids (n0:Int):mGet (catH n0) kKids=none:=by
 rw [cat_eq,mGet_put,if_neg (by decide+kernel),mGet_put,if_neg (by decide+kernel)];rfl
structure TreeS (tab:List (Int×Kvs)) (rc n0:Int) (kv0:Kvs) (ks:Fo) (K:Nat):Prop extends St tab rc n0 kv0 ks K where
 all:∀x∈keysTo K,x=rc\/x∈(Fo.node n0 kv0 ks .nil).nums
 catK:∀kvs,tGet tab rc=some kvs->mGet kvs kKids=none
theorem built {ps:List Kvs} (hp:∀kv∈ps,DrawOk kv) (h0:0 < ps.length) (hl:ps.length<=6) (w0:Nat) (hw:2<=w0) :
 ∃tabL lL fL,Lv w0 ((ps.map pgHead).foldl app []) (nxt 0 ps.length) tabL lL/\tabL.length<=20/\lL.length<=60 /\
  SpOk (app (app tabL (ndHead lL)) (catH ((tabL.length:Int)+1))) (some ((tabL.length:Int)+1+1)) ((tabL.length:Int)+1) (spR ((tabL.length:Int)+1) (ndHead lL) fL) /\
  (∀s∈spR ((tabL.length:Int)+1) (ndHead lL) fL,s.kvs.length<=20) /\
  ∃tabF kvF ksF,Stl (countsF (spR ((tabL.length:Int)+1) (ndHead lL) fL)) (app (app tabL (ndHead lL)) (catH ((tabL.length:Int)+1))) (spR ((tabL.length:Int)+1) (ndHead lL) fL) tabF /\
   TreeS tabF ((tabL.length:Int)+1+1) ((tabL.length:Int)+1) kvF ksF (tabL.length+2)/\ksF.nl=ps.length:=by
 revert hp h0 hl;ctx_has ps w0
 refine E3_5 (lv_ex w0 hw ps.length _ _ _ _ (by rw [nxt_len];exact Nat.le_refl _) (by rw [nxt_len];exact h0) (by rw [nxt_len];exact Nat.le_trans (by assumption) (by decide)) (lev_first hp)) λ tabL lL fL b1 b2 b3 b4 b5=>?_
 ctx_has tabL lL fL
 have h18:tabL.length<=20:=by rw [apps_len,nxt_len] at b5;simp at b5;lia
 have hk2:=app_keys b2.keys (ndHead lL)
 have hl2:(app tabL (ndHead lL)).length=tabL.length+1:=app_len _ _
 have hk3:=app_keys hk2 (catH ((tabL.length:Int)+1))
 have hl3:(app (app tabL (ndHead lL)) (catH ((tabL.length:Int)+1))).length=tabL.length+2:=by rw [app_len,app_len]
 have g3:∀x,tGet (app (app tabL (ndHead lL)) (catH ((tabL.length:Int)+1))) x=if x=(tabL.length:Int)+1+1 then some (catH ((tabL.length:Int)+1)) else if x=(tabL.length:Int)+1 then some (ndHead lL) else tGet tabL x:=λ x=>by
  rw [app_get _ hk2,hl2,app_get _ b2.keys]
  have:((tabL.length+1:Nat):Int)+1=(tabL.length:Int)+1+1:=by rfl
  rw [this]
 have hin:∀x∈fL.nums,1<=x/\x<=tabL.length:=λ x hx=>keysTo_le (by rw [←b2.keys];exact b2.inn x hx)
 have en:(Fo.node ((tabL.length:Int)+1) (ndHead lL) fL .nil).nums=((tabL.length:Int)+1)::fL.nums:=by show _::(fL.nums++[])=_;rw [append_nil]
 refine E0_5 (nd_row b4) λ r1 r2 r3 r4 r5=>?_
 have t:Fo.T (app (app tabL (ndHead lL)) (catH ((tabL.length:Int)+1))) (.node ((tabL.length:Int)+1) (ndHead lL) fL .nil):=by
  refine ⟨by rw [g3,if_neg (by simp+arith),if_pos rfl],r1,r2,by rw [b2.tops];exact r3,b2.t.congr λ x hx=>?_,trivial⟩
  have:=hin x hx
  rw [g3,if_neg (by lia),if_neg (by lia)]
 have nd:(Fo.node ((tabL.length:Int)+1) (ndHead lL) fL .nil).nums.Nodup:=by
  rw [en];exact nodup_cons.mpr ⟨λ q=>by have:=hin _ q;lia,b2.nd⟩
 have hfl:fL.nums.length<=tabL.length:=by
  have:=nodup_len b2.nd (b:=tabL.map (λ zz=>zz.1)) b2.inn
  rw [length_map] at this;exact this
 have len:(Fo.node ((tabL.length:Int)+1) (ndHead lL) fL .nil).nums.length<=50:=by rw [en,length_cons];lia
 have cat:∃kvs,tGet (app (app tabL (ndHead lL)) (catH ((tabL.length:Int)+1))) ((tabL.length:Int)+1+1)=some kvs/\mGet kvs kPages=some (mRef ((tabL.length:Int)+1)):=⟨_,by rw [g3,if_pos rfl],cat_pages _⟩
 have rcn:((tabL.length:Int)+1+1)∉(Fo.node ((tabL.length:Int)+1) (ndHead lL) fL .nil).nums:=λ q=>by
  rw [en] at q
  rcases mem_cons.mp q with q | q
  · lia
  · have:=hin _ q;lia
 have gt:GT (app (app tabL (ndHead lL)) (catH ((tabL.length:Int)+1))):=GT.app (GT.app b2.gt r1) (cat_gk _)
 refine E3_6 (settled (K:=tabL.length+2) t ⟨r4,r5,b2.s0 _,trivial⟩ nd len b2.full gt cat rcn (by rw [hk3,hl3])) λ tabF kvF ksF z1 z2 z3 z4 z5 z6=>?_
 ctx_has tabF kvF ksF
 refine ⟨tabL,lL,fL,b1,h18,b4,spok_of t nd (Nat.le_trans len (by decide)) cat,λ s hs=>(hd_of t s hs).1.len,tabF,kvF,ksF,z1,⟨z2,λ x hx=>?_,λ kvs e=>?_⟩,by rw [Fo.R.nl z5];exact b2.nl⟩
 · have q:=keysTo_le hx
   have e2:(Fo.node ((tabL.length:Int)+1) kvF ksF .nil).nums=((tabL.length:Int)+1)::fL.nums:=by show _::(ksF.nums++[])=_;rw [append_nil,Fo.R.nums z5]
   rw [e2]
   by_cases e:x<=tabL.length
   · exact .inr (.tail _ (b2.all x (by rw [b2.keys];exact keysTo_in q.1 e)))
   · by_cases e':x=(tabL.length:Int)+1
     · exact .inr (e' ▸ .head _)
     · left;lia
 · rw [z6 _ rcn,g3,if_pos rfl] at e
   f_shut e;exact cat_kids _
namespace Fo
noncomputable def set (n:Int) (kv':Kvs):Fo->Fo
 | nil=>nil
 | page m kv r=>page m (if m=n then kv' else kv) (set n kv' r)
 | node m kv ks r=>node m (if m=n then kv' else kv) (set n kv' ks) (set n kv' r)
theorem set_e:(∀ (n:Int) (kv':Kvs),Fo.set n kv' Fo.nil=Fo.nil)/\(∀ (n:Int) (kv':Kvs) (m:Int) (kv:Kvs) (r:Fo),Fo.set n kv' (Fo.page m kv r)=Fo.page m (if m=n then kv' else kv) (Fo.set n kv' r))/\(∀ (n:Int) (kv':Kvs) (m:Int) (kv:Kvs) (ks r:Fo),Fo.set n kv' (Fo.node m kv ks r)=Fo.node m (if m=n then kv' else kv) (Fo.set n kv' ks) (Fo.set n kv' r)):=⟨by intros;rfl,by intros;rfl,by intros;rfl⟩
theorem set_tops (n:Int) (kv':Kvs):∀f:Fo,(set n kv' f).tops=f.tops
 | nil=>rfl
 | page _ _ r=>by simp [set_e,tops_e,set_tops n kv' r]
 | node _ _ ks r=>by simp [set_e,tops_e,set_tops n kv' r]
theorem set_nums (n:Int) (kv':Kvs):∀f:Fo,(set n kv' f).nums=f.nums
 | nil=>rfl
 | page _ _ r=>by simp [set_e,nums_e,set_nums n kv' r]
 | node _ _ ks r=>by simp [set_e,nums_e,set_nums n kv' ks,set_nums n kv' r]
theorem set_nl (n:Int) (kv':Kvs):∀f:Fo,(set n kv' f).nl=f.nl
 | nil=>rfl
 | page _ _ r=>by simp [set_e,nl_e,set_nl n kv' r]
 | node _ _ ks r=>by simp [set_e,nl_e,set_nl n kv' ks,set_nl n kv' r]
section
variable {tab:List (Int×Kvs)} {n:Int} {kv kv':Kvs}
theorem mD {a b:Kvs} {k:Str} (h:mGet a k=mGet b k):mGetD a k=mGetD b k:=by unfold mGetD;rw [h]
theorem set_T (hr:tGet tab n=some kv) (g:GK kv') (he:∀k,k∉INHS->mGet kv' k=mGet kv k) {f:Fo} (t:T tab f):T (tPut tab n kv') (set n kv' f):=by
 have row:∀ {m:Int} {k:Kvs},tGet tab m=some k->GK k->tGet (tPut tab n kv') m=some (if m=n then kv' else k)/\GK (if m=n then kv' else k)/\∀x,x∉INHS->mGetD (if m=n then kv' else k) x=mGetD k x:=λ {m k} a b=>by
  by_cases hm:m=n
  · rw [hm,hr] at a
    rw [if_pos hm,← Option.some.inj a]
    exact ⟨by rw [tGet_put,if_pos hm],g,λ x hx=>mD (he x hx)⟩
  · rw [if_neg hm]
    exact ⟨by rw [tGet_put,if_neg hm];exact a,b,λ zz zz=>rfl⟩
 induction f with
 | nil=>trivial
 | page m k r ih=>exact E0_5 t λ a b c d e=>⟨(row a b).1,(row a b).2.1,((row a b).2.2 _ kt_ni).trans c,((row a b).2.2 _ kc_ni).trans d,ih e⟩
 | node m k ks r ik ih=>exact E0_6 t λ a b c d e f=>⟨(row a b).1,(row a b).2.1,((row a b).2.2 _ kt_ni).trans c,by rw [set_tops];exact ((row a b).2.2 _ kk_ni).trans d,ik e,ih f⟩
theorem set_G (hr:tGet tab n=some kv) (he:∀k,k∉INHS->mGet kv' k=mGet kv k) {f:Fo} {par:Option Int} (t:T tab f) (h:G par f):G par (set n kv' f):=by
 have row:∀ {m:Int} {k:Kvs} {x:Str} {v:MV},tGet tab m=some k->x∉INHS->mGetD k x=v->mGetD (if m=n then kv' else k) x=v:=λ {m k x v} a hx e=>by
  by_cases hm:m=n
  · rw [hm,hr] at a
    rw [if_pos hm,mD (he x hx),Option.some.inj a];exact e
  · rw [if_neg hm];exact e
 induction f generalizing par with
 | nil=>trivial
 | page m k r ih=>exact ⟨row t.1 kp_ni h.1,ih t.2.2.2.2 h.2⟩
 | node m k ks r ik ih=>exact ⟨row t.1 kp_ni h.1,by rw [set_nl];exact row t.1 kc_ni h.2.1,ik t.2.2.2.2.1 h.2.2.1,ih t.2.2.2.2.2 h.2.2.2⟩
set_option tactic.hygienic true in
theorem set_full (hr:tGet tab n=some kv) (he:∀k,k∉INHS->mGet kv' k=mGet kv k):∀ {f:Fo},T tab f->Full f->Full (set n kv' f)
 | nil,_,_=>trivial
 | page m k r,t,⟨a,b⟩=>by
  refine ⟨?_,set_full hr he t.2.2.2.2 b⟩
  split
  · rename_i e;subst e
    have:=t.1;rw [hr] at this;cases this
    rw [he _ kk_ni];exact a
  · exact a
 | node m k ks r,t,⟨a,b,c⟩=>⟨by rw [set_nl];exact a,set_full hr he t.2.2.2.2.1 b,set_full hr he t.2.2.2.2.2 c⟩
end
theorem top_par {tab:List (Int×Kvs)}:∀ {f:Fo} {par:Option Int},T tab f->G par f->∀x∈f.tops,∃kvx,tGet tab x=some kvx/\mGetD kvx kParent=parMV par
 | nil,_,_,_,_,h=>nomatch h
 | page m k r,par,t,g,x,h=>by
  rcases mem_cons.mp h with rfl | h
  · exact ⟨k,t.1,g.1⟩
  · exact top_par t.2.2.2.2 g.2 x h
 | node m k ks r,par,t,g,x,h=>by
  rcases mem_cons.mp h with rfl | h
  · exact ⟨k,t.1,g.1⟩
  · exact top_par t.2.2.2.2.2 g.2.2.2 x h
theorem kids_at {tab:List (Int×Kvs)}:∀ {f:Fo} {par:Option Int},T tab f->G par f->Full f->∀n∈f.nums,∀kv,tGet tab n=some kv->mGet kv kKids=none\/∃x ts kvx,mGet kv kKids=some (mRefs (x::ts))/\tGet tab x=some kvx/\mGetD kvx kParent=mRef n
 | nil,_,_,_,_,_,h,_,_=>nomatch h
 | page m k r,par,t,g,u,n,h,kv,e=>by
  rcases mem_cons.mp h with rfl | h
  · have:=t.1;rw [e] at this;cases this;exact .inl u.1
  · exact kids_at t.2.2.2.2 g.2 u.2 n h kv e
 | node m k ks r,par,t,g,u,n,h,kv,e=>by
  rcases mem_cons.mp h with rfl | h
  · have:=t.1;rw [e] at this;cases this
    right
    have hne:=nl_tops u.1
    cases hts:ks.tops with
    | nil=>exact absurd hts hne
    | cons x ts =>
     refine E1_2 (top_par t.2.2.2.2.1 g.2.2.1 x (by rw [hts];exact .head _)) λ kvx a b=>?_
     exact ⟨x,ts,kvx,by rw [←hts,← t.2.2.2.1];exact mGetD_some (by rw [t.2.2.2.1];intro q;cases q),a,b⟩
  · rcases mem_append.mp h with h | h
    · exact kids_at t.2.2.2.2.1 g.2.2.1 u.2.1 n h kv e
    · exact kids_at t.2.2.2.2.2 g.2.2.2 u.2.2 n h kv e
end Fo
section
variable {tab:List (Int×Kvs)} {rc n0:Int} {kv0:Kvs} {ks:Fo} {K:Nat}
theorem TreeS.set (h:TreeS tab rc n0 kv0 ks K) {n:Int} {kv kv':Kvs} (hr:tGet tab n=some kv) (g:GK kv') (he:∀k,k∉INHS->mGet kv' k=mGet kv k) :
 ∃ks',TreeS (tPut tab n kv') rc n0 (if n0=n then kv' else kv0) ks' K/\ks'.nl=ks.nl:=by
 revert h;ctx_has tab rc n0 kv0 ks K n kv kv'
 have t:=Fo.set_T hr g he h.t
 have gg:=Fo.set_G hr he h.t h.g
 have nn:=Fo.set_nums n kv' (.node n0 kv0 ks .nil)
 refine ⟨Fo.set n kv' ks,⟨⟨t,gg,by exact nn ▸ h.nd,by exact nn ▸ h.len,Fo.set_full hr he h.t.2.2.2.2.1 h.full,h.gt.put g,?_,by exact nn ▸ h.rcn,(tPut_keys hr).trans h.keys⟩,λ x hx=>?_,λ kvs e=>?_⟩,Fo.set_nl _ _ _⟩
 · refine E1_2 (h.cat) λ kvs a b=>?_
   by_cases e:rc=n
   · subst e;rw [a] at hr;f_shut hr
     exact ⟨kv',by rw [tGet_put,if_pos rfl],by rw [he _ kg_ni];exact b⟩
   · exact ⟨kvs,by rw [tGet_put,if_neg e];exact a,b⟩
 · exact (h.all x hx).imp id λ q=>nn ▸ q
 · by_cases q:rc=n
   · subst q
     rw [tGet_put,if_pos rfl] at e;f_shut e
     rw [he _ kk_ni];exact h.catK _ hr
   · rw [tGet_put,if_neg q] at e;exact h.catK _ e
noncomputable def Dif (kvs kv:Kvs):Prop:=mGet kvs kKids=none\/∃x ts x' ts',mGet kvs kKids=some (mRefs (x::ts))/\mGet kv kKids=some (mRefs (x'::ts'))/\x≠x'
theorem TreeS.uniq (h:TreeS tab rc n0 kv0 ks K) (h0:0 < ks.nl) {n m:Int} {kv kv':Kvs} (hn:tGet tab n=some kv) (hm:tGet tab m=some kv') (hk:mGet kv kKids≠none) (hne:m≠n):Dif kv' kv:=by
 have key:∀n kv,tGet tab n=some kv->mGet kv kKids≠none->∃x ts kvx,mGet kv kKids=some (mRefs (x::ts))/\tGet tab x=some kvx/\mGetD kvx kParent=mRef n:=λ n kv hn hk=>by
  rcases h.all n (by rw [←h.keys];exact tGet_key hn) with rfl | hin
  · exact absurd (h.catK _ hn) hk
  · by_cases e:n=n0
    · subst e
      have:=h.t.1;rw [hn] at this;f_shut this
      cases hts:ks.tops with
      | nil=>exact absurd hts (Fo.nl_tops h0)
      | cons x ts =>
       refine E1_2 (Fo.top_par h.t.2.2.2.2.1 h.g.2.2.1 x (by rw [hts];exact .head _)) λ kvx a b=>?_
       exact ⟨x,ts,kvx,by rw [←hts,← h.t.2.2.2.1];exact mGetD_some (by rw [h.t.2.2.2.1];intro q;f_shut q),a,b⟩
    · rcases Fo.kids_at h.t.2.2.2.2.1 h.g.2.2.1 h.full n (by
       rcases mem_cons.mp hin with q | q
       · exact absurd q e
       · simpa [Fo.nums_e] using q) kv hn with q | q
      · exact absurd q hk
      · exact q
 by_cases q:mGet kv' kKids=none
 · exact .inl q
 refine E3_3 (key n kv hn hk) λ x ts kvx a b c=>?_
 refine E3_3 (key m kv' hm q) λ x' ts' kvx' a' b' c'=>?_
 refine .inr ⟨x',ts',x,ts,a',a,λ e=>hne ?_⟩
 rw [e,b] at b'
 rw [←Option.some.inj b',c] at c'
 f_shut c';rfl
end
noncomputable def Fun (X:Lg):Prop:=∀p∈X,∀q∈X,p.1=q.1->p.2=q.2
theorem News.fun {h₀ h:Heap} {L:Addr} {X:Lg} (N:News h₀ L h X):Fun X:=λ p hp q hq e=>by
 have a:=(N p hp).1
 have b:=(N q hq).1
 rw [e,b] at a
 exact (Option.some.inj a).symm
noncomputable abbrev offD (X:Lg) (d:Addr):Lg:=X.filter λ p=>decide (p.1≠d)
theorem mem_offD {X:Lg} {d:Addr} {p:Addr×Obj} (h:p∈X) (hn:p.1≠d):p∈offD X d:=mem_filter.mpr ⟨h,by simpa using hn⟩
theorem offD_sub {X:Lg} {d:Addr}:∀p∈offD X d,p∈X:=λ zz h=>(mem_filter.mp h).1
theorem offD_ne {X:Lg} {d:Addr}:∀p∈offD X d,p.1≠d:=λ p h=>by simpa using (mem_filter.mp h).2
noncomputable abbrev kTy:Str:=Str.ofString "Type"
structure Hd (X:Lg) (w:World) (d:Addr) (o:Obj) (pvs:List (Str×Value)):Prop where
 f:Fun X
 m:(d,o)∈X
 i:o.IsDictOf (PySem.strKind PG w) pvs
 k:kTy∈pvs.map (λ zz=>zz.1)
set_option tactic.hygienic true in
theorem pairs_keys {w:World} {es:List DictEntry} {kvs kvs':List (Str×Value)} (h:Pairs (PySem.strKind PG w) es kvs) (h':Pairs (PySem.strKind PG w) es kvs'):kvs=kvs':=by
 induction h generalizing kvs' with
 | nil=>cases h';rfl
 | cons a b _ ih =>
  cases h' with
  | cons a' b' r' =>
   rename_i kv _ _ _ kv' _
   have e1:kv.1=kv'.1:=Value.isStrOf_inj _ _ _ a a'
   have e2:kv.2=kv'.2:=b.symm.trans b'
   rw [ih r',Prod.ext e1 e2]
theorem isd_fun {w:World} {o:Obj} {pvs pvs':List (Str×Value)} (h:o.IsDictOf (PySem.strKind PG w) pvs) (h':o.IsDictOf (PySem.strKind PG w) pvs'):pvs=pvs':=by
 refine E2_5 h λ es ep a b c d e=>?_;clear h
 refine E2_5 h' λ es' ep' a' b' c' d' e'=>?_;clear h'
 rw [b] at b'
 f_shut b'
 exact pairs_keys d d'
section
variable {w:World} {X:Lg} {d:Addr} {o:Obj} {pvs:List (Str×Value)}
theorem Hd.seq (h:Hd X w d o pvs) {a:Addr} {o':Obj} {vs:Array Value} {k:Nat} (hm:(a,o')∈X) (hd:o'.data = .seq vs k):a≠d:=λ e=>by
 have:=h.f _ hm _ h.m e
 refine E2_3 (h.i) λ es ep zz b zz=>?_
 rw [show o'=o from this,b] at hd
 f_shut hd
theorem Hd.plain (h:Hd X w d o pvs) {a:Addr} {o':Obj} (hm:(a,o')∈X) (hd:o'.data = .plain):a≠d:=λ e=>by
 have:=h.f _ hm _ h.m e
 refine E2_3 (h.i) λ es ep zz b zz=>?_
 rw [show o'=o from this,b] at hd
 f_shut hd
theorem pairs_names {w:World} {es:List DictEntry} {kvs:List (Str×Value)} (h:Pairs (PySem.strKind PG w) es kvs):∀x∈kvs.map (λ zz=>zz.1),∃e∈es,Value.isStrOf x e.key=true:=by
 induction h with
 | nil=>exact λ x h=>absurd h not_mem_nil
 | cons a b zz ih =>
  intro x h
  rcases mem_cons.mp h with rfl | h
  · exact ⟨_,.head _,a⟩
  · refine E1_2 (ih x h) λ e m q=>?_;exact ⟨e,.tail _ m,q⟩
theorem Hd.inst (h:Hd X w d o pvs) {a:Addr} {es:List DictEntry} {k:Nat} (hm:(a,dictOf es k)∈X) (hk:∀e∈es,Value.isStrOf kTy e.key=false):a≠d:=λ e=>by
 have:=h.f _ hm _ h.m e
 refine E2_5 (h.i) λ es' ep zz b zz c zz=>?_
 rw [←show dictOf es k=o from this] at b
 f_shut b
 refine E1_2 (pairs_names c _ h.k) λ e' m q=>?_
 rw [hk e' (by simpa using m)] at q
 f_shut q
theorem AllF.keys {N:Lg} {es:List DictEntry} {fs:List (String×MV)} (h:MFs w N es fs) (hp:∀p∈fs,(Str.ofString p.1 == kTy)=false):∀e∈es,Value.isStrOf kTy e.key=false:=by
 induction h with
 | nil=>exact λ e h=>absurd h not_mem_nil
 | cons _ _ ih =>
  intro e he
  rcases mem_cons.mp he with rfl | he
  · have:=hp _ (.head _)
    show (_ == _)=false
    rw [beq_eq_false_iff_ne] at this ⊢
    first | exact this | exact Ne.symm this
  · exact ih (λ p hp'=>hp p (.tail _ hp')) e he
inductive Sv:MV->Prop
 | none:Sv .none
 | int (i:Int):Sv (.int i)
 | str (i:Str):Sv (.str i)
 | ptr (a:Addr):Sv (.ptr a)
 | lst {l:List MV}:(∀v∈l,Sv v)->Sv (.lst l)
 | tup {l:List MV}:(∀v∈l,Sv v)->Sv (.tup l)
 | inst {C:Nat} {fs:List (String×MV)}:(∀p∈fs,(Str.ofString p.1 == kTy)=false)->(∀p∈fs,Sv p.2)->Sv (.inst C fs)
theorem All2.offs {vs:List Value} {ms:List MV} (hp:∀m∈ms,∀v,MIn w X v m->MIn w (offD X d) v m) (h:MAll w X vs ms):MAll w (offD X d) vs ms:=by
 induction h with
 | nil=>exact .nil
 | cons a zz ih=>exact .cons (hp _ (.head _) _ a) (ih λ m hm=>hp m (.tail _ hm))
theorem AllF.offs {es:List DictEntry} {fs:List (String×MV)} (hp:∀p∈fs,∀v,MIn w X v p.2->MIn w (offD X d) v p.2) (h:MFs w X es fs):MFs w (offD X d) es fs:=by
 induction h with
 | nil=>exact .nil
 | cons a zz ih=>exact .cons (hp _ (.head _) _ a) (ih λ m hm=>hp m (.tail _ hm))
theorem AllK.offs {κ:Type} {ps:List (κ×Value)} {kvs:List (κ×MV)} (hp:∀p∈kvs,∀v,MIn w X v p.2->MIn w (offD X d) v p.2) (h:AllK (MIn w X) ps kvs):AllK (MIn w (offD X d)) ps kvs:=by
 induction h with
 | nil=>exact .nil
 | cons a zz ih=>exact .cons (hp _ (.head _) _ a) (ih λ m hm=>hp m (.tail _ hm))
theorem Sv.off (h:Hd X w d o pvs) {m:MV} (hm:Sv m):∀v,MIn w X v m->MIn w (offD X d) v m:=by
 induction hm with
 | none=>exact λ v hv=>hv.noneE .none
 | int i=>exact λ v hv=>hv.intE λ zz=>.int _ _
 | str i=>exact λ v hv=>hv.strE λ zz=>.str _ _
 | ptr a=>exact λ v hv=>hv.ptrE (.ptr _)
 | lst zz ih=>exact λ v hv=>lst_el hv λ a vs k a1 a2=>.lst (mem_offD a1 (h.seq a1 rfl)) (a2.offs ih)
 | tup zz ih=>exact λ v hv=>tup_el hv λ a vs k a1 a2=>.tup (mem_offD a1 (h.seq a1 rfl)) (a2.offs ih)
 | inst hk zz ih=>exact λ v hv=>hv.instE λ a dx es k a1 a2 a3=>.inst (mem_offD a1 (h.plain a1 rfl)) (mem_offD a2 (h.inst a2 (a3.keys hk))) (a3.offs ih)
theorem PlainV.sv {m:MV} (h:PlainV m):Sv m:=by
 induction h with
 | none=>exact .none
 | int i=>exact .int i
 | name s=>exact .inst (λ p hp=>by rw [mem_singleton.mp hp];rfl) λ p hp=>by rw [mem_singleton.mp hp];exact .str _
 | ref n =>
  refine .inst (λ p hp=>?_) λ p hp=>?_
  · rcases mem_cons.mp hp with rfl | hp
    · rfl
    · rw [mem_singleton.mp hp];rfl
  · rcases mem_cons.mp hp with rfl | hp
    · exact .int _
    · rw [mem_singleton.mp hp];exact .int _
theorem FlatV.plain {m:MV} (h:FlatV m):PlainV m\/∃l,m = .lst l/\∀v∈l,PlainV v:=by
 induction h with
 | int i=>exact .inl (.int i)
 | name s=>exact .inl (.name s)
 | ref n=>exact .inl (.ref n)
 | lst a b=>exact .inr ⟨_,rfl,a⟩
theorem FlatV.sv {m:MV} (h:FlatV m):Sv m:=by
 rcases h.plain with q | ⟨l,rfl,q⟩
 · exact q.sv
 · exact .lst λ v hv=>(q v hv).sv
theorem int1_open {N:Lg} {v:Value} {C:Nat} {f:String} {x:Int} {fs:List (String×MV)} (h:MIn w N v (.inst C ((f,.int x)::fs))):∃a dx k k1 t es,v = .ref a/\(a,instObj C dx)∈N/\(dx,dictOf (ent w f k1 (.int x t)::es) k)∈N:=by
 refine h.instE λ a dx es k h1 h2 h3=>?_
 revert h2
 refine h3.cn λ k1 v es q1 zz=>?_
 refine q1.intE λ t h2=>?_
 exact ⟨_,_,_,_,_,_,rfl,h1,h2⟩
theorem kid1_fun (h:Fun X) {v:Value} {x x':Int} {ts ts':List Int} (a:MIn w X v (mRefs (x::ts))) (b:MIn w X v (mRefs (x'::ts'))):x=x':=by
 revert h;ctx_has w X v x x' ts ts'
 refine E3_3 (lst_open a) λ l vs k e a1 a2=>?_;ctx_has l vs k;subst e
 refine E3_3 (lst_open b) λ l' vs' k' e b1 b2=>?_
 ctx_has l' vs' k'
 have e:=h _ a1 _ b1 (Value.ref.inj e)
 have e2:vs=vs':=by
  have:=congrArg Obj.data e
  simp at this;exact this.1
 subst e2
 induction vs with
 | nil=>f_shut a2
 | cons u r =>
 ctx_has u r
 refine E6_3 (int1_open a2.hd) λ p dx q k1 t es e1 p1 p2=>?_;ctx_has p dx q k1 t es;subst e1
 refine E6_3 (int1_open b2.hd) λ p' dx' q' k1' t' es' e1 p1' p2'=>?_
 ctx_has p' dx' q' k1' t' es'
 f_shut e1
 have e:=h _ p1 _ p1' rfl
 f_shut e
 have e:=h _ p2 _ p2' rfl
 f_shut e;rfl
theorem row_open {N:Lg} {v:Value} {kvs:Kvs} (h:MIn w N v (rowMV kvs)):∃t k t0 d o pvs,v = .ref t/\(t,tupO [.int 0 t0,.ref d] k)∈N/\(d,o)∈N/\(d == sysModules)=false/\o.IsDictOf (PySem.strKind PG w) pvs/\MKv w N pvs kvs:=by
 ctx_has w N v kvs
 refine tup_el h λ t vs k a1 a2=>?_
 revert a1
 refine a2.in2 λ u u2 q1 q2=>?_
 refine q1.intE λ t0=>dct_el q2 λ d o pvs b1 b2 b3 b4 a1=>?_
 exact ⟨_,_,_,_,_,_,rfl,a1,b1,b2,b3,b4⟩
theorem row_off (h:Hd X w d o pvs) {kv:Kvs} (hkv:MKv w X pvs kv) (hk:mGet kv kKids≠none) {v:Value} {kvs:Kvs} (hf':∀p∈kvs,FlatV p.2) (hne:Dif kvs kv) (hv:MIn w X v (rowMV kvs)):MIn w (offD X d) v (rowMV kvs):=by
 refine E6_6 (row_open hv) λ t k t0 d' o' pvs' e24_6 a1 a2 a3 a4 a5=>?_;subst e24_6
 have hd:d'≠d:=λ e=>by
  have e2:=h.f _ a2 _ h.m e
  rw [show o'=o from e2] at a4
  have e3:=isd_fun a4 h.i
  subst e3
  rcases hne with q | ⟨x,ts,x',ts',q,q',hn⟩
  · cases q':mGet kv kKids with
    | none=>exact hk q'
    | some m=>exact E1_2 (hkv.getS q') λ v e zz=>by rw [a5.getN q] at e;f_shut e
  · refine E1_2 (a5.getS q) λ v e i=>?_
    refine E1_2 (hkv.getS q') λ v' e' i'=>?_
    rw [e] at e'
    f_shut e'
    exact hn (kid1_fun h.f i i')
 exact .tup (mem_offD a1 (h.seq a1 rfl)) (.cons (.int _ _) (.cons (.dct (mem_offD a2 hd) a3 a4 (a5.offs λ p hp=>(hf' p hp).sv.off h)) .nil))
noncomputable def tabP (tab:List (Int×Kvs)) (n:Int) (d:Addr):List (Int×MV):=tab.map λ p=>(p.1,if p.1=n then .tup [.int 0,.ptr d] else rowMV p.2)
theorem tabP_of (h:Hd X w d o pvs) {n:Int} {kv:Kvs} {t:Addr} {k:Nat} {t0:Tok} (hkv:MKv w X pvs kv) (hk:mGet kv kKids≠none) (ht:(t,tupO [.int 0 t0,.ref d] k)∈X) :
 ∀ {tvs:List (Int×Value)} {tab:List (Int×Kvs)},MIk w X tvs (tabM tab)->(∀p∈tab,∀q∈p.2,FlatV q.2)->(∀p∈tab,p.1≠n->Dif p.2 kv)->(∀v,(n,v)∈tvs->v = .ref t)->MIk w (offD X d) tvs (tabP tab n d):=by
 intro tvs tab
 induction tab generalizing tvs with
 | nil=>exact λ hm zz zz zz=>hm.nl .nil
 | cons p q ih =>
  intro hm
  have hm:MIk w X tvs ((p.1,rowMV p.2)::tabM q):=hm
  refine hm.cn λ v r a b hfl hne hv=>?_
  refine .cons (m:=if p.1=n then .tup [.int 0,.ptr d] else rowMV p.2) ?_ (ih b (λ p hp=>hfl p (.tail _ hp)) (λ p hp=>hne p (.tail _ hp)) λ v hv'=>hv v (.tail _ hv'))
  by_cases e:p.1=n
  · rw [if_pos e,hv v (e ▸ .head _)]
    exact .tup (mem_offD ht (h.seq ht rfl)) (.cons (.int _ _) (.cons (.ptr _) .nil))
  · rw [if_neg e]
    exact row_off h hkv hk (hfl p (.head _)) (hne p (.head _) e) a
theorem tabP_put {Z Z':Lg} {o':Obj} {pvs':List (Str×Value)} {n:Int} {kv':Kvs} (hs:Ext Z Z') (hm:(d,o')∈Z') (lo:(d == sysModules)=false) (hi:o'.IsDictOf (PySem.strKind PG w) pvs') (hkv:MKv w Z' pvs' kv') :
 ∀ {tvs:List (Int×Value)} {tab:List (Int×Kvs)},MIk w Z tvs (tabP tab n d)->MIk w Z' tvs (tabM (tab.map λ p=>if p.1=n then (p.1,kv') else p)):=by
 intro tvs tab
 induction tab generalizing tvs with
 | nil=>exact λ hm=>hm.nl .nil
 | cons p q ih =>
  intro hr
  have hr:MIk w Z tvs ((p.1,if p.1=n then .tup [.int 0,.ptr d] else rowMV p.2)::tabP q n d):=hr
  refine hr.cn λ v r a b=>?_
  show AllK _ _ ((if p.1=n then (p.1,kv') else p)::_ |>.map λ p=>(p.1,rowMV p.2))
  have ih:=ih b
  by_cases e:p.1=n
  · rw [if_pos e] at a ⊢
    refine .cons (tup_el a λ t vs k a1 a2=>?_) ih
    revert a1
    refine a2.in2 λ u u2 q1 q2 a1=>?_
    refine .tup (hs _ a1) (.cons (q1.mono hs) (.cons (q2.ptrE (.dct hm lo hi hkv)) .nil))
  · rw [if_neg e] at a ⊢
    exact .cons (a.mono hs) ih
end
section
variable {W:Wd} {I:Info} {r:Nat} {c:Cx W I r} {vals vals':Vs} {own own':Ow}
theorem Cx.S0.drop1 {m cm:Str->Option Value} {pre post cel frz:Lg} {a:Addr} {o:Obj} (S:c.S0 m cm (pre++(a,o)::post) cel frz vals own) (ho:OAll W.w frz (pre++post) own'):c.S0 m cm (pre++post) cel frz vals own':=by
 have hs:∀ {p:Addr×Obj} {X:Lg},p∈(pre++post)++X->p∈(pre++(a,o)::post)++X:=λ hp=>by
  kso_open hp
 refine ⟨S.k,?_,λ p hp=>S.ao p (hs hp),λ p hp=>S.af p (hs hp),ho,S.cc,S.kn,S.hi,S.fx,S.fm⟩
 have:=S.nd
 rw [map_append,map_append,map_cons,append_assoc,cons_append,nodup_append] at this
 rw [map_append,map_append,append_assoc,nodup_append]
 exact ⟨this.1,(nodup_cons.mp this.2.1).2,λ x hx y hy=>this.2.2 x hx y (.tail _ hy)⟩
theorem kForX.ints {x:Str} {body:List Stmt} {K:KS} {ns:List Int} {a:Addr} (d:Dl own a (.lst (ns.map .int)) own') (J:Nat->Vs->Ow->Prop) (h0:J 0 vals own')
 (turn:∀ (c':Cx W I r) i n vals own,c'.fz=c.fz->ns[i]? = some n->J i vals own->∃vals',Nt I.names vals x false (.int n) vals'/\WS c' body (kTurn J i K) vals' own) (done:∀vals own,J ns.length vals own->K .nx vals own) (hcp:autoParam (I.cp=none) aR) (hhb:autoParam (I.hb=false) aR) :
 kForX c x body K (.ptr a) vals own:=by
 intro v s Q at' hQ
 refine Cx.AtI.el1 at' λ g tk m cm ob cel frz Sx hi hv=>?_
 refine hi.ptrE ?_
 refine Sx.eDl d λ pre o post S q1 q2=>?_
 obtain ⟨o1,o2⟩:=S.off
 have S1:=(S.s0.drop1 q2).more (it:=[(a,o)]) (λ p hp b hb e=>by
  rw [mem_singleton.mp hp] at e
  refine E1_2 (mem_map.mp hb) λ q hq e2=>?_
  have hq':q∈(pre++post)++(cel++(c.old++frz)):=hq
  rw [append_assoc] at hq'
  exact (mem_append.mp hq').elim (λ h=>o1 q h (e2.trans e.symm)) λ h=>o2 q h (e2.trans e.symm)) S.fx
 have S0:(c.more [(a,o)] c.fz).St g m cm (pre++post) cel frz vals own':=S1.st S.F λ p hp=>S.N p (by
  have hp':p∈(pre++post)++(cel++(([(a,o)]++c.old)++frz)):=hp
  simp only [mem_append,mem_cons,mem_singleton,not_mem_nil,or_false] at hp' ⊢
  rcases hp' with (q | q) | q | (q | q) | q <;> simp [q])
 clear S1 S o1 o2
 revert S0
 refine q1.lstE λ us k ha S0=>?_
 have he:(c.more [(a,listOf us.toArray k)] c.fz).env.locals=c.L:=by unfold Cx.env cEnv;rw [hcp];rfl
 refine for_core (c:=c.more [(a,listOf us.toArray k)] c.fz) (l:=ns.map .int) (Src:=[(a,listOf us.toArray k)]) (Rel:=λ i v=>us[i]? = some v) (n:=ns.length) J hcp hhb h0 ?_ done S0 (hQ.less hcp hhb λ zz h=>h) (λ p hp=>mem_append_left _ (mem_append_left _ hp)) ?_ λ J' hj keep turn' done'=>?_
 · intro c' i m vals own ef hm hJ
   rw [getElem?_map] at hm
   refine E1_2 (Option.map_eq_some_iff.mp hm) λ n hn e2_2=>?_;subst e2_2
   exact turn c' i n vals own ef hn hJ
 · intro i v h
   refine E1_2 (ha.at h) λ mv h1 h2=>?_
   refine ⟨mv,h1,?_⟩
   rw [getElem?_map] at h1
   refine E1_2 (Option.map_eq_some_iff.mp h1) λ n hn e4_2=>?_;subst e4_2
   refine h2.intE λ t=>?_
   exact .int _ _
 have el:=ha.length
 rw [length_map] at el
 rw [←el] at done'
 exact loop_list J' (Sx.k.hhb hhb) (keep _ _ _ hj _ (.head _)) (by rw [he];exact S0.F) (by rw [he];exact S0.N) hj (λ i m nx h=>keep i m nx h _ (.head _)) turn' done'
inductive SvO:OV->Prop
 | lst {ms:List MV}:(∀m∈ms,Sv m)->SvO (.lst ms)
 | dct {kvs:List (Str×MV)}:(∀p∈kvs,Sv p.2)->SvO (.dct kvs)
 | ict {kvs:List (Int×MV)}:(∀p∈kvs,Sv p.2)->SvO (.ict kvs)
 | obj {C:Nat} {dx:Addr}:SvO (.obj C dx)
 | fld {fs:List (String×MV)}:(∀p∈fs,Sv p.2)->SvO (.fld fs)
theorem SvO.off {w:World} {X:Lg} {d:Addr} {o:Obj} {pvs:List (Str×Value)} (H:Hd X w d o pvs) {a:Addr} {o':Obj} {ov:OV} (s:SvO ov) (h:OIn w X a o' ov):OIn w (offD X d) a o' ov:=by
 induction s with
 | lst s=>exact h.lstE λ zz zz h=>.lst (h.offs λ m hm=>(s m hm).off H)
 | dct s=>exact h.dctE λ zz a b h=>.dct a b (h.offs λ m hm=>(s m hm).off H)
 | ict s=>exact h.ictE λ zz a b h=>.ict a b (h.offs λ m hm=>(s m hm).off H)
 | obj=>exact h.objE .obj
 | fld s=>exact h.fldE λ zz zz h=>.fld (h.offs λ m hm=>(s m hm).off H)
theorem OAll.off1 {w:World} {X:Lg} {d:Addr} {o:Obj} {pvs:List (Str×Value)} (H:Hd X w d o pvs) {q:Ow} {ob:Lg} (h:OAll w X ob q) (hq:∀p∈q,SvO p.2):OAll w (offD X d) ob q:=by
 induction h with
 | nil=>exact .nil
 | cons h zz ih=>exact .cons ((hq _ (.head _)).off H h) (ih λ p hp=>hq p (.tail _ hp))
theorem mem_val {l:List (Int×Value)} {n:Int} {v:Value} (nd:(l.map (λ zz=>zz.1)).Nodup) (h:(n,v)∈l):valueAt l n=some v:=by
 induction l with
 | nil=>f_shut h
 | cons p r ih =>
  rw [map_cons,nodup_cons] at nd
  rcases mem_cons.mp h with rfl | h
  · simp [valueAt]
  · have hne:¬ p.1=n:=λ e=>nd.1 (e ▸ mem_map.mpr ⟨_,h,rfl⟩)
    have:=ih nd.2 h
    simp [valueAt,hne] at this ⊢
    exact this
theorem WS.thaw {K:KS} {T:Addr} {pre post:Ow} {tab:List (Int×Kvs)} {n:Int} {kv:Kvs} {b:List Stmt} (hfz:c.fz=[]) (hn:tGet tab n=some kv) (hty:mGet kv kTy≠none) (hfl:∀p∈tab,∀q∈p.2,FlatV q.2) (hkk:mGet kv kKids≠none) (hu:∀p∈tab,p.1≠n->Dif p.2 kv)
 (hv:∀m,some m∈vals->Sv m) (ho:∀p∈pre++post,SvO p.2) (h:∀d,WS c b K vals ((d,.dct kv)::(pre++(T,.ict (tabP tab n d))::post))) (hcp:autoParam (I.cp=none) aR) (hhb:autoParam (I.hb=false) aR):WS c b K vals (OwT pre T tab post):=by
 intro s Q a hQ
 refine Cx.AtI.el a λ g tk m cm ob cel frz S zz=>?_
 have hfk:∀q∈kv,FlatV q.2:=by
  refine E1_2 (Option.map_eq_some_iff.mp hn) λ p hp e=>?_
  intro q hq;rw [←e] at hq;exact hfl p (mem_of_find?_eq_some hp) q hq
 refine E1_2 (S.ow.at (a:=T) (ov:=.ict (tabM tab)) (mem_append_right _ (.head _))) λ oT hT1 hT2=>?_
 refine hT2.ictE λ pvs lo hd hk=>?_
 refine E1_2 (hk.getS (tab_get hn)) λ v hv1 hv2=>?_
 refine E6_6 (row_open hv2) λ t k t0 d o dvs ev a1 a2 a3 a4 a5=>?_
 have hky:kTy∈dvs.map (λ zz=>zz.1):=by
  rw [a5.keys]
  cases q:mGet kv kTy with
  | none=>exact absurd q hty
  | some x =>
   unfold mGet at q
   refine E1_2 (Option.map_eq_some_iff.mp q) λ p hp zz=>?_
   have e:=List.find?_some hp
   exact mem_map.mpr ⟨p,mem_of_find?_eq_some hp,by simpa using e⟩
 have hfun:Fun frz:=News.fun (h₀:=c.h₀) (h:=g) (L:=c.L) S.pure
 have H:Hd frz W.w d o dvs:=⟨hfun,a2,a4,hky⟩
 have nd:=hd.choose_spec.choose_spec.2.2.2.2
 have hP:=tabP_of H (n:=n) a5 hkk a1 hk hfl hu λ v hv=>by
  have:=mem_val nd hv
  rw [hv1,ev] at this
  exact (Option.some.inj this).symm
 have hOT:∀oT',OIn W.w frz T oT' (.ict (tabM tab))->oT'=oT->OIn W.w (offD frz d) T oT' (.ict (tabP tab n d)):=λ oT' zz e=>e ▸ .ict lo hd hP
 refine h d _ Q ⟨g,tk,m,cm,(d,o)::ob,cel,offD frz d,⟨S.k,S.F,λ p hp=>S.N p ?_,?_,?_,?_,.cons (.dct a3 a4 (a5.offs λ p hp=>(hfk p hp).sv.off H)) ?_,S.cc,?_,?_,λ p hp=>?_,λ q=>absurd hcp q⟩,.nil⟩ hQ
 · simp only [mem_append,mem_cons] at hp ⊢
   rcases hp with (rfl | q) | q | q | q
   · simp [a2]
   · simp [q]
   · simp [q]
   · simp [q]
   · simp [offD_sub p q]
 · rw [cons_append,map_cons,nodup_cons]
   refine ⟨λ q=>?_,S.nd⟩
   refine E1_2 (mem_map.mp q) λ p hp e=>?_
   exact S.af p (by kso_open hp) _ a2 e
 · intro p hp q hq
   rcases mem_cons.mp hp with rfl | hp
   · exact Ne.symm (S.af q (by k_flat) _ a2)
   · exact S.ao p hp q hq
 · intro p hp q hq
   rcases mem_cons.mp hp with rfl | hp
   · exact Ne.symm (offD_ne q hq)
   · exact S.af p hp q (offD_sub q hq)
 · have:=S.ow
   have key:∀oT',(T,oT')∈ob->oT'=oT:=λ oT' h'=>by
    have x1:=(S.N (T,oT') (mem_append_left _ h')).1
    have x2:=(S.N (T,oT) (mem_append_left _ hT1)).1
    exact Option.some.inj (x1.symm.trans x2)
   have gen:∀ {pre:Ow} {ob':Lg},(∀p∈ob',p∈ob)->(∀p∈pre++post,SvO p.2)->OAll W.w frz ob' (pre++(T,.ict (tabM tab))::post)->OAll W.w (offD frz d) ob' (pre++(T,.ict (tabP tab n d))::post):=by
    intro pre
    induction pre with
    | nil =>
     intro ob' hs hsv h
     revert hs
     refine h.cn λ zz zz h1 h2 hs=>?_
     exact .cons (hOT _ h1 (key _ (hs _ (.head _)))) (h2.off1 H hsv)
    | cons p pre ih =>
     intro ob' hs hsv h
     revert hs
     exact h.cn λ zz zz h1 h2 hs=>.cons ((hsv _ (.head _)).off H h1) (ih (λ p hp=>hs p (.tail _ hp)) (λ p hp=>hsv p (.tail _ hp)) h2)
   exact gen (λ zz h=>h) ho this
 · have key:∀ {ns:List (Str×Bool)} {vals:Vs},(∀m,some m∈vals->Sv m)->c.Kn m cm frz ns vals->c.Kn m cm (offD frz d) ns vals:=by
    intro ns vals hs k
    induction k with
    | nil=>exact .nil
    | cons h zz ih=>exact .cons (λ mv e=>E1_2 (h mv e) λ v a b=>⟨v,a,(hs _ (e ▸ .head _)).off H _ b⟩) (ih λ m hm=>hs m (.tail _ hm))
   exact key hv S.kn
 · rw [S.k.hhb hhb];trivial
 · rw [hfz] at hp;f_shut hp
theorem WS.refrz {K:KS} {T d:Addr} {pre post:Ow} {tab:List (Int×Kvs)} {n:Int} {kv:Kvs} {b:List Stmt} (hn:∃kv0,tGet tab n=some kv0) (f:Fz d (.dct kv) vals vals') (h:WS c b K vals' (OwT pre T (tPut tab n kv) post)):WS c b K vals ((d,.dct kv)::(pre++(T,.ict (tabP tab n d))::post)):=by
 intro s Q a hQ
 refine Cx.AtI.el a λ g tk m cm ob cel frz S zz=>?_
 have e0:tPut tab n kv=tab.map λ p=>if p.1=n then (p.1,kv) else p:=by
  unfold tPut
  rw [if_pos]
  obtain ⟨kv0,hn⟩:=hn
  refine E1_2 (Option.map_eq_some_iff.mp hn) λ p hp zz=>?_
  have q:=List.find?_some hp
  exact List.any_eq_true.mpr ⟨p,mem_of_find?_eq_some hp,q⟩
 have How:=S.ow
 revert S
 refine How.cn λ o ob h1 h2 S=>?_
 refine h1.dctE λ pvs lo hd hk=>?_
 have gen:∀ {pre:Ow} {ob':Lg},OAll W.w frz ob' (pre++(T,.ict (tabP tab n d))::post)->OAll W.w ((d,o)::frz) ob' (pre++(T,.ict (tabM (tPut tab n kv)))::post):=by
  intro pre
  induction pre with
  | nil =>
   intro ob' h
   refine h.cn λ zz zz h1 h2=>.cons (h1.ictE λ zz lo' hd' hk'=>?_) (h2.mono λ zz h=>.tail _ h)
   rw [e0]
   exact .ict lo' hd' (tabP_put (λ zz h=>.tail _ h) (.head _) lo hd (hk.mono λ zz h=>.tail _ h) hk')
  | cons p pre ih =>
   exact λ h=>h.cn λ zz zz h1 h2=>.cons (h1.mono λ zz h=>.tail _ h) (ih h2)
 have S1:=(Cx.S0.drop1 (pre:=[]) S.s0 h2)
 refine h _ Q ⟨g,tk,m,cm,ob,cel,(d,o)::frz,⟨S.k,S.F,λ p hp=>S.N p ?_,S1.nd,S1.ao,λ p hp q hq=>?_,gen h2,S.cc,S.kn.fz f (λ zz h=>.tail _ h) (.dct (.head _) lo hd (hk.mono λ zz h=>.tail _ h)),S.hi.mono λ p hp=>?_,λ p hp=>.tail _ (S.fx p hp),S.fm⟩,.nil⟩ hQ
 · simp only [mem_append,mem_cons] at hp ⊢
   rcases hp with q | q | q | q | q <;> simp [q]
 · rcases mem_cons.mp hq with rfl | hq
   · exact (Cx.St.off (pre:=[]) S).2 p (by kso_open hp)
   · exact S1.af p hp q hq
 · kso_open hp
end
inductive EqL (P:MV->Prop):MV->Prop
 | none:EqL P .none
 | bool {b}:EqL P (.bool b)
 | int {i}:EqL P (.int i)
 | str {i}:EqL P (.str i)
 | tup {l}:(∀v∈l,P v)->EqL P (.tup l)
 | lst {l}:(∀v∈l,P v)->EqL P (.lst l)
noncomputable def EqF (n:Nat):MV->Prop:=Nat.rec (EqL λ zz=>False) (λ zz P=>EqL P) n
theorem EqL.imp {P P':MV->Prop} (hp:∀m,P m->P' m) {m:MV} (h:EqL P m):EqL P' m:=by
 induction h with
 | none=>exact .none
 | bool=>exact .bool
 | int=>exact .int
 | str=>exact .str
 | tup h=>exact .tup λ v hv=>hp v (h v hv)
 | lst h=>exact .lst λ v hv=>hp v (h v hv)
theorem EqF.of0 {m:MV} (h:EqF 0 m):∀ {n},EqF n m
 | 0=>h
 | _+1=>EqL.imp (λ zz q=>q.elim) h
theorem EqF.none {n}:EqF n .none:=EqF.of0 EqL.none
theorem EqF.int {n i}:EqF n (.int i):=EqF.of0 EqL.int
theorem EqF.str {n i}:EqF n (.str i):=EqF.of0 EqL.str
theorem EqF.tup {n l} (h:∀v∈l,EqF n v):EqF (n+1) (.tup l):=EqL.tup h
theorem EqF.lst {n l} (h:∀v∈l,EqF n v):EqF (n+1) (.lst l):=EqL.lst h
theorem EqF.up {n:Nat} {m:MV} (h:EqF n m) {k} (hk:n<=k):EqF k m:=by
 induction n generalizing k m with
 | zero=>exact h.of0
 | succ n ih =>
  rcases k with _ | k
  · exact absurd hk (Nat.not_succ_le_zero n)
  · exact EqL.imp (λ m q=>ih q (Nat.le_of_succ_le_succ hk)) h
theorem all_true {n:Nat}:((List.range n).all λ zz=>true)=true:=by simp
section
variable {w:World} {h₀:Heap} {L:Addr} {s:Shared} {NX N:Lg}
theorem All2.pairs {P:Value->Value->Prop} {vs ys:List Value} {ms:List MV} (a:MAll w N vs ms) (b:MAll w N ys ms) (h:∀m∈ms,∀v y,MIn w N v m->MIn w N y m->P v y):∀j (q1:j < vs.length) (q2:j < ys.length),P vs[j] ys[j]:=by
 induction a generalizing ys with
 | nil=>exact λ j q1=>absurd q1 (Nat.not_lt_zero j)
 | cons a1 zz ih =>
  refine b.cn λ y r b1 b2 j=>?_
  match j with
  | 0=>exact λ zz zz=>h _ (.head _) _ _ a1 b1
  | j+1=>exact λ q1 q2=>ih b2 (λ m hm=>h m (.tail _ hm)) j (Nat.lt_of_succ_lt_succ q1) (Nat.lt_of_succ_lt_succ q2)
theorem rc_tup {vs ys:List Value} {a b:Addr} (i1:s.heap.IsTuple a vs.toArray) (i2:s.heap.IsTuple b ys.toArray) (e:vs.length=ys.length) {A:Around} (hu:A.units < cLine) (h:∀j (q1:j < vs.length) (q2:j < ys.length),SeqAt.EqAt A.in1 s vs[j] ys[j] true):SeqAt.RcAt A s (.ref a) (.ref b) true:=by
 have R:=SeqAt.RcAt.tuples (A:=A) (e:=λ zz=>true) i1 i2 hu (λ j q1 q2=>by
  have:=h j (by trivial) (by trivial)
  trivial)
 rw [all_true] at R
 have e3:(vs.toArray.size == ys.toArray.size)=true:=by simp [e]
 rwa [e3] at R
theorem rc_lst {vs ys:List Value} {a b:Addr} (i1:s.heap.IsList a vs.toArray) (i2:s.heap.IsList b ys.toArray) (e:vs.length=ys.length) {A:Around} (hu:A.units < cLine) (h:∀j (q1:j < vs.length) (q2:j < ys.length),SeqAt.EqAt A.in1 s vs[j] ys[j] true):SeqAt.RcAt A s (.ref a) (.ref b) true:=by
 have R:=SeqAt.RcAt.lists (A:=A) (e:=λ zz=>true) i1 i2 (by trivial) hu (λ j q1 q2=>by
  have:=h j (by trivial) (by trivial)
  trivial)
 rwa [all_true] at R
theorem EqL.eq (Nw:News h₀ L s.heap NX) (h1:Ext N NX) {P:MV->Prop} {A:Around} (hu:A.units+1 < cLine) (ih:∀m,P m->∀v y,MIn w N v m->MIn w N y m->SeqAt.EqAt A.in1 s v y true) {m:MV} (f:EqL P m) (v y:Value) (a:MIn w N v m) (b:MIn w N y m):SeqAt.EqAt A s v y true:=by
 induction f with
 | none=>exact a.noneE (b.noneE (SeqAt.EqAt.same _))
 | bool=>exact a.boolE (b.boolE (SeqAt.EqAt.same _))
 | @int i =>
  refine a.intE λ t=>?_
  refine b.intE λ u=>?_
  have:=SeqAt.EqAt.int_int (A:=A) (s:=s) i t i u
  rwa [beq_self_eq_true] at this
 | @str i =>
  refine a.strE λ t=>?_
  refine b.strE λ u=>?_
  have:=SeqAt.EqAt.str_str (A:=A) (s:=s) i t i u
  rwa [beq_self_eq_true] at this
 | tup hl =>
  refine tup_el a λ a1 vs k ha hr=>?_
  refine tup_el b λ a2 ys k2 hb hq=>?_
  by_cases e:a1=a2
  · rw [e];exact SeqAt.EqAt.same _
  exact SeqAt.EqAt.of_refs e (rc_tup ⟨_,(Nw _ (h1 _ ha)).1,rfl,_,rfl⟩ ⟨_,(Nw _ (h1 _ hb)).1,rfl,_,rfl⟩ (hr.length.trans hq.length.symm) (by lia) (hr.pairs hq λ m hm v y hv hy=>ih m (hl m hm) v y hv hy))
 | lst hl =>
  refine lst_el a λ a1 vs k ha hr=>?_
  refine lst_el b λ a2 ys k2 hb hq=>?_
  by_cases e:a1=a2
  · rw [e];exact SeqAt.EqAt.same _
  exact SeqAt.EqAt.of_refs e (rc_lst ⟨_,(Nw _ (h1 _ ha)).1,rfl,_,rfl⟩ ⟨_,(Nw _ (h1 _ hb)).1,rfl,_,rfl⟩ (hr.length.trans hq.length.symm) (by lia) (hr.pairs hq λ m hm v y hv hy=>ih m (hl m hm) v y hv hy))
theorem EqF.eq (Nw:News h₀ L s.heap NX) (h1:Ext N NX) {n:Nat} {m:MV} (f:EqF n m):∀v y,MIn w N v m->MIn w N y m->∀A:Around,A.units+n+2 < cLine->SeqAt.EqAt A s v y true:=by
 induction n generalizing m with
 | zero=>exact λ v y a b A hu=>EqL.eq Nw h1 (by lia) (λ zz q=>q.elim) f v y a b
 | succ n ih=>exact λ v y a b A hu=>EqL.eq Nw h1 (by lia) (λ m q v y a b=>ih q v y a b A.in1 (by rw [units_in1];lia)) f v y a b
end
section
variable {W:Wd} {I:Info} {r:Nat} {c:Cx W I r} {vals vals':Vs} {own own':Ow}
theorem Cx.St.frzX {g:Heap} {m cm:Str->Option Value} {ob cel frz:Lg} (_S:c.St g m cm ob cel frz vals own):Ext frz (c.all ob cel frz):=λ p hp=>by k_flat
theorem kC2.eqL {m1 m2:MV} {l:List MV} {n:Nat} {K:KV} (R1:RdL own m1 l) (R2:RdL own m2 l) (f:∀v∈l,EqF n v) (h:K (.bool true) vals own) (hn:autoParam (n+4<=8 * r) aD):kC2 c .Eq m1 K m2 vals own:=by
 intro v1 v2 s vs ms Q a hQ
 refine Cx.AtI.el2 a λ g tk m0 cm ob cel frz S q2 q1 hv=>?_
 have hu:=S.k.hu
 refine R1.el S q1 λ a1 us k i1 e1=>?_
 refine R2.el S q2 λ a2 ys k2 i2 e2=>?_
 exact rc_lst (A:=c.A) ⟨_,(S.N _ i1).1,rfl,_,rfl⟩ ⟨_,(S.N _ i2).1,rfl,_,rfl⟩ (e1.length.trans e2.length.symm) (by show c.un < cLine;lia) (e1.pairs e2 λ m hm v y hv hy=>(f m hm).eq S.N S.frzX v y hv hy _ (by rw [units_in1];show c.un+1+n+2 < cLine;lia)) PG W.w c.E Q (hQ _ _ _ _ _ h ⟨g,tk,m0,cm,ob,cel,frz,S,.cons (.bool _) hv⟩)
theorem kC2.neL {m1 m2:MV} {l:List MV} {n:Nat} {K:KV} (R1:RdL own m1 l) (R2:RdL own m2 l) (f:∀v∈l,EqF n v) (h:K (.bool false) vals own) (hn:autoParam (n+4<=8 * r) aD):kC2 c .NotEq m1 K m2 vals own:=by
 intro v1 v2 s vs ms Q a hQ
 refine Cx.AtI.el2 a λ g tk m0 cm ob cel frz S q2 q1 hv=>?_
 have hu:=S.k.hu
 refine R1.el S q1 λ a1 us k i1 e1=>?_
 refine R2.el S q2 λ a2 ys k2 i2 e2=>?_
 have l1:=e1.length
 have l2:=e2.length
 refine SeqAt.RcNeAt.lists (A:=c.A) (e:=λ zz=>true) ⟨_,(S.N _ i1).1,rfl,_,rfl⟩ ⟨_,(S.N _ i2).1,rfl,_,rfl⟩ (by simp [l1,l2]) (by show c.un < cLine;lia) (λ j q1 q2=>?_) PG W.w c.E Q ?_
 · have:=e1.pairs (P:=λ v y=>SeqAt.EqAt c.A.in1 {c.s with heap:=g,toks:=tk} v y true) e2 (λ m hm v y hv hy=>(f m hm).eq S.N S.frzX v y hv hy _ (by rw [units_in1];show c.un+1+n+2 < cLine;lia)) j (by trivial) (by trivial)
   trivial
 · rw [all_true];exact hQ _ _ _ _ _ h ⟨g,tk,m0,cm,ob,cel,frz,S,.cons (.bool _) hv⟩
theorem kC2.eqT {l:List MV} {n:Nat} {K:KV} (f:∀v∈l,EqF n v) (h:K (.bool true) vals own) (hn:autoParam (n+4<=8 * r) aD):kC2 c .Eq (.tup l) K (.tup l) vals own:=by
 intro v1 v2 s vs ms Q a hQ
 refine Cx.AtI.el2 a λ g tk m0 cm ob cel frz S q2 q1 hv=>?_
 have hu:=S.k.hu
 refine tup_el q1 λ a1 us k i1 e1=>?_
 refine tup_el q2 λ a2 ys k2 i2 e2=>?_
 exact rc_tup (A:=c.A) ⟨_,(S.pure _ i1).1,rfl,_,rfl⟩ ⟨_,(S.pure _ i2).1,rfl,_,rfl⟩ (e1.length.trans e2.length.symm) (by show c.un < cLine;lia) (e1.pairs e2 λ m hm v y hv hy=>(f m hm).eq S.N S.frzX v y hv hy _ (by rw [units_in1];show c.un+1+n+2 < cLine;lia)) PG W.w c.E Q (hQ _ _ _ _ _ h ⟨g,tk,m0,cm,ob,cel,frz,S,.cons (.bool _) hv⟩)
end
theorem toldP_flat {v:MV} (h:PlainV v):EqF 1 (toldP v):=by
 induction h with
 | none=>exact .tup λ v hv=>by rw [mem_singleton.mp hv];exact .str
 | int i=>exact .tup λ v hv=>by simp only [mem_cons,not_mem_nil,or_false] at hv;rcases hv with rfl | rfl;exact .str;exact .int
 | name i=>exact .tup λ v hv=>by simp only [mem_cons,not_mem_nil,or_false] at hv;rcases hv with rfl | rfl <;> exact .str
 | ref i=>exact .tup λ v hv=>by simp only [mem_cons,not_mem_nil,or_false] at hv;rcases hv with rfl | rfl | rfl;exact .str;exact .int;exact .int
theorem toldV_flat {v:MV} (h:v = .none\/FlatV v):EqF 2 (toldV v):=by
 rcases h with rfl | h
 · exact (toldP_flat .none).up (by decide)
 · induction h with
   | int i=>exact (toldP_flat (.int i)).up (by decide)
   | name i=>exact (toldP_flat (.name i)).up (by decide)
   | ref i=>exact (toldP_flat (.ref i)).up (by decide)
   | lst h zz =>
    refine .tup λ v hv=>?_
    rcases mem_cons.mp hv with rfl | hv
    · exact .str
    · refine E1_2 (mem_map.mp hv) λ x hx e0_2=>?_;subst e0_2;exact toldP_flat (h x hx)
theorem mGetD_flat {kvs:Kvs} (h:∀q∈kvs,FlatV q.2) (k:Str):mGetD kvs k = .none\/FlatV (mGetD kvs k):=by
 unfold mGetD mGet
 cases e:kvs.find? λ kv=>kv.1=k with
 | none=>exact .inl rfl
 | some p=>exact .inr (h _ (mem_of_find?_eq_some e))
theorem toldD_flat {kvs:Kvs} (h:∀q∈kvs,FlatV q.2):EqF 4 (toldD kvs):=by
 ctx_has kvs
 refine .tup λ v hv=>?_
 ctx_has v
 rcases mem_cons.mp hv with rfl | hv
 · exact .str
 · refine E1_2 (mem_map.mp hv) λ k zz e1_2=>?_;ctx_has k;subst e1_2
   refine .tup λ v hv=>?_
   rcases mem_cons.mp hv with rfl | hv
   · exact .str
   · rw [mem_singleton.mp hv];exact toldV_flat (mGetD_flat h k)
set_option tactic.hygienic true in
theorem told_flat {tab:List (Int×Kvs)} {root:Option Int} {k:Nat} (hg:∀p∈tab,∀q∈p.2,FlatV q.2):∀v∈[MV.tup ((keysTo k).map (rowT tab)),toldD (trlM root)],EqF 6 v:=λ v hv=>by
 rcases mem_cons.mp hv with rfl | hv
 · refine .tup λ v hv=>?_
   refine E1_2 (mem_map.mp hv) λ n _ e2_2=>?_;subst e2_2
   unfold rowT
   split
   · rename_i kvs e
     refine E1_2 (Option.map_eq_some_iff.mp e) λ p hp e2=>?_
     refine .tup λ v hv=>?_
     simp only [mem_cons,not_mem_nil,or_false] at hv
     rcases hv with rfl | rfl | rfl
     · exact .int
     · exact .int
     · exact toldD_flat (e2 ▸ hg _ (mem_of_find?_eq_some hp))
   · exact .none
 · rw [mem_singleton.mp hv];exact (toldD_flat (trlM_flat root).1).up (by decide)
section
variable {W:Wd} {I:Info} {r:Nat} {c:Cx W I r} {vals vals':Vs} {own own':Ow}
theorem kF1.listL {m:MV} {l:List MV} {K:KV} (R:RdL own m l) (hz:l.length<=900) (h:∀a,K (.ptr a) vals ((a,.lst l)::own)):kF1 c (.type "list") K m vals own:=by
 intro v s vs ms Q a hQ
 refine Cx.AtI.el1 a λ g tk m1 cm ob cel frz S hi hv=>?_
 refine R.el S hi λ a us k h1 h2=>?_
 exact kup_listOf (zs:=us) S.F S.N h1 (by simp) (λ D k' h' F' N' lt=>hQ _ _ _ _ _ (h D) (S.newAt (tk:=tk) hv F' N' lt (.lst h2))) (by simp [sizeLine_eq,h2.length];exact Nat.le_trans (by assumption) (by decide))
theorem All2.erase {w:World} {N:Lg} {vs:List Value} {ms:List MV} (i:Nat) (h:MAll w N vs ms):MAll w N (vs.eraseIdx i) (ms.eraseIdx i):=by
 induction h generalizing i with
 | nil=>exact .nil
 | cons a b ih =>
  rcases i with _ | i
  · exact b
  · exact .cons a (ih i)
theorem kMb.popL {args:List Expr} {K:KV} {m:MV} {l:List MV} (R:RdL own m l) (h:WA c args (kCallB c "list.pop" [m] K) vals own):kMb c (Str.ofString "pop") "list.pop" args K m vals own:=by
 refine ⟨λ v s vs ms Q pl a=>?_,h⟩
 refine Cx.AtI.el1 a λ g tk m1 cm ob cel frz S hi hv=>?_
 refine R.el S hi λ a us k h1 h2=>?_
 intro hQ
 exact listMethod_K S.N h1 PySem.F.slot_list_pop PySem.F.type_list_pop hQ
theorem ON.popAt {K:KV} {a:Addr} {l:List MV} {m:MV} {i:Nat} {x:Int} (u:Up own a (.lst l) (.lst (l.eraseIdx i)) own') (e:l[i]? = some m) (hx:x=(i:Int)) (hz:l.length<=900) (h:K m vals own'):kCallB c "list.pop" [.ptr a] K [.int x] vals own:=by
 subst hx
 intro ws s vs ms Q el at' hQ
 refine Cx.AtI.elS at' el λ g tk m1 cm ob cel frz S hw hv=>?_
 refine hw.in2 λ v y hi hk=>?_
 refine hi.ptrE ?_
 refine hk.intE λ t=>?_
 refine S.eLst u λ pre us j post S hl q2=>?_
 have hlt:=(List.getElem?_eq_some_iff.mp e).1
 have hul:i < us.length:=by rw [hl.length];exact hlt
 refine E1_2 (hl.at (List.getElem?_eq_getElem hul)) λ mv e1 hm=>?_
 rw [e] at e1
 refine popAtL S.F S.N (List.getElem?_eq_getElem hul) (S.upd _) (by rw [hl.length];exact hz) λ h' F' N'=>?_
 exact hQ _ _ _ _ _ h ⟨h',tk,m1,cm,_,cel,frz,S.set F' N' (q2 _ (.lst (hl.erase i))),.cons (Option.some.inj e1 ▸ hm) hv⟩
noncomputable def kRevS (W:Wd) (mo:MV) (K:KV):KV:=λ m vals own=>∃l,m = .int (-1)/\RdG W own mo l/\l.length<=900/\∀a,K (.ptr a) vals ((a,.lst l.reverse)::own)
theorem kRevS.mk {mo:MV} {l:List MV} {K:KV} (R:RdG W own mo l) (hz:l.length<=900) (h:∀a,K (.ptr a) vals ((a,.lst l.reverse)::own)):kRevS W mo K (.int (-1)) vals own:=⟨l,rfl,R,hz,h⟩
theorem revG {prog:Program} {w:World} {A:Around} {E:Value->Shared->Prop} {s:Shared} {h₀:Heap} {L:Addr} {m:Str->Option Value} {news:Lg} {l:Addr} {vs:List Value} {value slice:Expr} {vk:Value} {ops:List Value} {Q:Value->Shared->Prop} (F:Fr h₀ L s.heap m) (N:News h₀ L s.heap news) (hl:s.heap.IsList l vs.toArray) (pk:IsPart vk (some (-1))) (hz:vs.length<=900)
 (h:∀D h',Fr h₀ L h' m->News h₀ L h' ((D,listOf vs.reverse.toArray 0)::news)->(∀p∈news,p.1 < D)->Q (.ref D) {s with heap:=h'})
 (hs:subscripted slice false (.ref l) (.ref s.heap.objs.size)=operate ops (getItem (.ref l) (.ref s.heap.objs.size))) (ht:∀r,letTemporaryGo value (.ref l) r=pure ()) :
 wpAny (model prog w) A (subscriptTail value slice (.ref l) (.ref s.heap.objs.size)) Q E {s with heap:=s.heap.push {cls:=.type "slice",data:=.fields #[.none,.none,vk]}} :=
 krv_lit (its:=vs.toArray) (zs:=vs.reverse) F N hl pk (by simp) h hs ht (by rw [List.size_toArray,sizeLine_eq];exact Nat.le_trans (by assumption) (by decide))
theorem WE.subRev {value st:Expr} {p p':Pos} {K:KV} (h:WE c value (kSlV c st λ mo=>kRevS W mo K) vals own) (hs:∀l a,∃ops,subscripted (.Slice Option.none Option.none (some st) p) false (.ref l) (.ref a)=operate ops (getItem (.ref l) (.ref a)):=by with_unfolding_all exact λ zz zz=>⟨_,rfl⟩):WE c (.Subscript value (.Slice Option.none Option.none (some st) p) p') K vals own:=by
 intro s vs ms Q a hQ
 refine Subscript_ (h s vs ms _ a λ v mv s' vals' own' hk a'=>?_)
 refine wpAny_Slice (wpAny_pure (wpAny_pure (hk s' _ _ _ a' λ v2 mv2 s2 vals2 own2 hk2 a2=>?_)))
 obtain ⟨l,rfl,R,hz,hk2⟩:=hk2
 refine Cx.AtI.el2 a2 λ g tk m cm ob cel frz S h1 h2 hv=>?_
 refine h1.intE λ t=>?_
 refine R.el S h2 λ d us q1 q2=>?_
 exact kba_turn (value':=anyName) (λ zz=>rfl) (revG (value:=anyName) (s:={c.s with heap:=g,toks:=tk}) S.F S.N q1 (.int _ _) (by rw [q2.length];exact hz) (λ D h' F' N' lt=>hQ _ _ _ _ _ (hk2 D) (S.newAt (tk:=tk) hv F' N' lt (.lst q2.reverse))) (hs _ _).choose_spec (λ zz=>rfl))
noncomputable def kForP (c:Cx W I r) (xi xc:Str) (pk pv:Pos) (x1:Nat) (pt:Pos) (body:List Stmt) (K:KS):KV:=λ m vals own=>∀v s Q,c.At s vals own [v] [m]->c.PF K Q ->
 wpAny (model PG W.w) c.A (pyIter v) (λ it s₂=>LoopAtT PG W.w c.A c.h₀ c.env (.Tuple [.Name xi pk,.Name xc pv] x1 pt) body Q c.E it s₂) c.E s
theorem WS.forP {xi xc:Str} {pk pv pt pos:Pos} {x1:Nat} {iter:Expr} {body rest:List Stmt} {K:KS} (h:WE c iter (kForP c xi xc pk pv x1 pt body (kSeq c rest K)) vals own) (hcp:autoParam (I.cp=none) aK)
 (hs:autoParam (∀env x,foldedSetIterable iter env x=pure x) aK):WS c (.For (.Tuple [.Name xi pk,.Name xc pv] x1 pt) iter body [] pos::rest) K vals own:=by
 refine WS.cons λ s Q a hQ=>?_
 have he:c.env=fEnv I c.L:=by unfold Cx.env cEnv;rw [hcp]
 refine Cx.AtI.el a λ g tk m cm ob cel frz S hv=>?_
 have a0:=Cx.AtI.mk (c:=c) g tk m cm ob cel frz S hv
 refine For_invTF (m:=m) (h₀:=c.h₀) (by rw [he];exact S.F) (h _ [] [] _ a0 λ v mv s' vals' own' hk a'=>hk v s' Q a' hQ) (λ x=>hs _ x) ?_
 have:=S.k.po hcp
 rw [he];exact this
theorem Cx.S0.at {m cm:Str->Option Value} {ob cel frz:Lg} (s₁:Shared) (hcp:I.cp=none) (S:c.S0 m cm ob cel frz vals own):({c with s:=s₁}:Cx W I r).S0 m cm ob cel frz vals own:=by
 refine ⟨⟨S.k.B,S.k.X,S.k.T,S.k.ok,S.k.hd,S.k.hu,S.k.hhb,S.k.po⟩,S.nd,S.ao,S.af,S.ow,S.cc,?_,S.hi,S.fx,S.fm⟩
 exact S.kn.imp (λ zz zz zz a=>a) λ zz zz h=>h
theorem Cx.JJ.at {J:Nat->Vs->Ow->Prop} {i:Nat} {m₁:Str->Option Value} {nx:Lg} (s₁:Shared) (hcp:I.cp=none) (h:c.JJ J i m₁ nx):({c with s:=s₁}:Cx W I r).JJ J i m₁ nx:=by
 exact E6_3 h λ cm ob cel frz' vals own e S1 hJ=>⟨cm,ob,cel,frz',vals,own,e,S1.at s₁ hcp,hJ⟩
theorem kForP.lst {xi xc:Str} {pk pv pt:Pos} {x1:Nat} {body:List Stmt} {K:KS} {l:List (MV×MV)} (J:Nat->Vs->Ow->Prop) (h0:J 0 vals own)
 (turn:∀ (c':Cx W I r) i p vals own,l[i]? = some p->J i vals own->∃vals1 vals',Nt I.names vals xi false p.1 vals1/\Nt I.names vals1 xc false p.2 vals'/\WS c' body (kP (J (i+1))) vals' own) (done:∀vals own,J l.length vals own->K .nx vals own)
 (hxi:autoParam ((cEnv I 0 0).kindOf xi=some .local) aQ) (hxc:autoParam ((cEnv I 0 0).kindOf xc=some .local) aQ) (hcp:autoParam (I.cp=none) aR) (hhb:autoParam (I.hb=false) aR) :
 kForP c xi xc pk pv x1 pt body K (.lst (l.map λ p=>.tup [p.1,p.2])) vals own:=by
 revert c;ctx_has W I r vals own xi xc pk pv pt x1 body K l J
 ctx_has c
 intro v s Q a hQ
 refine Cx.AtI.el1 a λ g tk m cm ob cel frz S hi hv=>?_
 refine lst_el hi λ l0 us k hm ha=>?_
 have S0:=S.fixed
 have hQ0:=hQ.less (it:=[]) hcp hhb S.fx
 have he:c.env.locals=c.L:=by unfold Cx.env cEnv;rw [hcp]
 have heE:c.env=fEnv I c.L:=by unfold Cx.env cEnv;rw [hcp]
 have el:us.length=l.length:=by rw [ha.length,length_map]
 have hp1:(c.env.scope.kind == .class || (c.env.scope.kind == .module && c.env.locals != c.env.globals))=false:=by
  rw [heE];show (I.cs.kind == .class || (I.cs.kind == .module && _))=false;rw [S.k.ok.hk];rfl
 have elem:∀ {i v},us[i]? = some v->∃p:MV×MV,l[i]? = some p/\MIn W.w frz v (.tup [p.1,p.2]):=λ h=>by
  refine E1_2 (ha.at h) λ mv h1 h2=>?_
  rw [getElem?_map] at h1
  refine E1_2 (Option.map_eq_some_iff.mp h1) λ p hp e5_2=>?_;subst e5_2
  exact ⟨p,hp,h2⟩
 refine loop_pairs (c.more [] frz |>.JJ J) (S.k.hhb hhb) (cEnv_kind.trans hxi) (cEnv_kind.trans hxc) hp1 (l:=l0) (vs:=us) (k:=k) (news:=(c.more [] frz).all ob cel frz) (m₀:=m) (by k_flat) (by rw [he];exact S0.F) (by rw [he];exact S0.N) ⟨cm,ob,cel,frz,vals,own,rfl,S0.s0,h0⟩
  (λ i m nx h=>h.keep (Src:=[(l0,listOf us.toArray k)]) (λ p hp=>mem_append_right _ (by rw [mem_singleton.mp hp];exact hm)) _ (.head _)) (λ i v m nx hv h=>?_) (λ i T v0 v1 kk m₁ nx s₁ it hvi hT hoff hJ F1 N1=>?_) (λ m₁ nx h tk hJ F1 N1=>by rw [he] at F1 N1;rw [el] at hJ;exact hJ.done hQ0 done F1 N1)
 · refine E1_2 (elem hv) λ p hp h2=>?_
   refine tup_el h2 λ T ws kk q1 q2=>?_
   revert q1
   refine q2.in2 λ zz zz zz zz=>?_
   intro q1
   exact ⟨T,_,_,kk,rfl,h.keep (Src:=frz) (λ p hp=>mem_append_right _ hp) _ q1⟩
 · refine E1_2 (elem hvi) λ p hp h2=>?_
   refine E3_3 (tup_open h2) λ T' ws kk' e q1 q2=>?_
   f_shut e
   revert q1
   refine q2.in2 λ zz zz z1 z2=>?_
   intro q1
   rw [he] at F1 N1
   have i1:=(N1 _ (mem_append_left _ hT)).1
   have i2:=(N1 _ (mem_append_left _ (hJ.keep (Src:=frz) (λ p hp=>mem_append_right _ hp) _ q1))).1
   have e3:=i1.symm.trans i2
   f_shut e3
   have ho:∀p∈it,∀q∈(c.more [] frz).old,p.1≠q.1:=λ p hp q hq=>hoff p hp _ (mem_map.mpr ⟨q,hJ.keep (λ zz h=>mem_append_left _ h) q hq,rfl⟩)
   let c1:Cx W I r:={c.more [] frz with s:=s₁}
   have hJ1:c1.JJ J i m₁ nx:=hJ.at s₁ hcp
   refine Cx.JJ.turn (c:=c1) (h:=s₁.heap) (tk:=s₁.toks) (m₂:=λ y=>if y=xc then some v1 else if y=xi then some v0 else m₁ y) (Kt:=kP (J (i+1))) hJ1 hoff (λ cm ob cel frz' vals own S1 hJ=>?_) (λ fl fv s' vals own hk ok=>?_) F1 N1
   · refine E2_3 (turn (c1.more it c1.fz) i p vals own hp hJ) λ vals1 vals2 t1 t2 hw=>?_
     exact ⟨vals2,(S1.loc hcp t1 (z1.mono S1.fx)).loc hcp t2 (z2.mono S1.fx),hw⟩
   · obtain ⟨rfl,hk⟩:=hk
     induction fl with
     | next =>
      refine E5_7 (Cx.JJ.next (c:=c1) (h:=s₁.heap) (tk:=s₁.toks) hcp hhb ho hk ok) λ h' tk' m' news' nx' e1 e2 e3 e4 e5 e6 e7=>?_
      exact ⟨h',tk',m',news',nx',e1,by rw [he];exact e2,by rw [he];exact e3,e4,e5,e6,e7.at c.s hcp⟩
     | _=>exact ok.elim
end
section
variable {W:Wd} {I:Info} {r:Nat} {c:Cx W I r} {vals vals':Vs} {own own':Ow}
theorem WE.call0 {x:Str} {p p':Pos} {f:Value} {K:KV} (g:Gl W x f) (h:kCall c f [] K [] vals own) (hx:autoParam ((cEnv I 0 0).kindOf x=some .globalImplicit) aQ) (hd:(x == ("__debug__":Str))=false:=by decide+kernel)
 (hc:autoParam (∀env,eval (.Call (.Name x p') [] [] p) env=(do callWith p (←eval (.Name x p') env) [] (backTo p (starEach [] env)) (backToKw p (keywordEach [] env)))) aK):WE c (.Call (.Name x p') [] [] p) K vals own:=by
 intro s vs ms Q a hQ
 refine Call_ ?_ (hc _)
 refine Cx.AtI.el a λ g0 tk m cm ob cel frz S hv=>?_
 have a0:c.At _ _ _ _ _:=Cx.AtI.mk g0 tk m cm ob cel frz S hv
 have hg:c.env.globals=mainGlobals:=cEnv_gl
 refine Name_function_global (cEnv_fk.trans S.k.ok.fk) (cEnv_kind.trans hx) (loadGlobal_global (mg:=W.mg) (v:=f) (by rw [hg];exact S.k.T.g.keeps S.F.keep) (mg_of S.k.X S.k.T.g g.1) ?_) hd
 exact callWith_K0 a0.in g.2 (h [] _ vs ms Q rfl a0 hQ)
inductive Gd:MV->Prop
 | none:Gd .none
 | int (i:Int):Gd (.int i)
 | ptr (a:Addr):Gd (.ptr a)
theorem Gd.to {w:World} {N:Lg} {v:Value} {m:MV} (g:Gd m) (h:MIn w N v m):MIn w [] v m:=by
 induction g with
 | none=>exact h.noneE .none
 | int i=>exact h.intE λ zz=>.int _ _
 | ptr a=>exact h.ptrE (.ptr _)
theorem All2.gd {w:World} {N:Lg} {vs:List Value} {ms:List MV} (hp:∀m∈ms,Gd m) (h:MAll w N vs ms):MAll w [] vs ms:=by
 induction h with
 | nil=>exact .nil
 | cons a zz ih=>exact .cons ((hp _ (.head _)).to a) (ih λ m hm=>hp m (.tail _ hm))
theorem OAll.gd {w:World} {N:Lg} {ob:Lg} {own:Ow} (h:OAll w N ob own) (g:∀p∈own,∃ms,p.2 = .lst ms/\∀m∈ms,Gd m):OAll w [] ob own:=by
 induction h with
 | nil=>exact .nil
 | cons h1 zz ih =>
  refine E1_2 (g _ (.head _)) λ ms e hm=>?_
  refine .cons ?_ (ih λ p hp=>g p (.tail _ hp))
  dsimp only at e
  rw [e] at h1 ⊢
  exact h1.lstE λ zz zz h=>.lst (All2.gd hm h)
theorem kCall.e {hb:Bool} {f:Addr} {r':Nat} {first args:List MV} {Post:MV->Ow->Prop} {K:KV} (C:TlF W hb f r' (first++args) own Post []) (ga:∀m∈first++args,Gd m) (go:∀p∈own,∃ms,p.2 = .lst ms/\∀m∈ms,Gd m)
 (h:∀mv own',Post mv own'->K mv vals own') (hr:autoParam (r'<=r) aD) (hI:autoParam (I.hb=false) aR):kCall c (.ref f) first K args vals own:=by
 intro ws s vs ms Q e a hQ
 refine Cx.AtI.elS a e λ g tk m cm ob cel frz S hw hv=>?_
 have hnd:=S.nd
 rw [map_append,nodup_append] at hnd
 have hd:=S.k.hd
 have hu:=S.k.hu
 have hh:=S.k.hhb hI
 refine wpAny_call (C c.hh c.dp c.un c.gd I.cn I.cs I.a I.ccd (cellsFrom (c.L+1) I.cs.names []) c.outer c.A₀ c.base c.h₀ c.L m _ _ ob (cel++(c.old++frz)) ws (λ zz=>hh) (by rw [hh];trivial) S.k.B S.F S.k.X (by simpa using S.N) hnd.1 (λ p hp q hq=>?_) (λ zz zz zz h=>nomatch h) (S.ow.gd go) (hw.gd ga) S.k.T S.k.ok.hk (by lia) (by lia) ?_)
 · rcases mem_append.mp hq with hq | hq
   · exact hnd.2.2 _ (mem_map.mpr ⟨p,hp,rfl⟩) _ (mem_map.mpr ⟨q,hq,rfl⟩)
   · rcases mem_append.mp hq with hq | hq
     · exact S.ao p (by k_flat) q hq
     · exact S.af p (by k_flat) q hq
 · intro v mv own' ob' fz' h' tk' hP F' N' nd' ao' he hf ho hi
   have hs:Ext fz' (frz++fz'):=λ p hp=>mem_append_right _ hp
   have hs2:Ext frz (frz++fz'):=λ p hp=>mem_append_left _ hp
   refine hQ v mv _ vals own' (h mv own' hP) ⟨h',tk',m,cm,ob',cel,frz++fz',S.back F' (λ p hp=>N' p ?_) nd' (λ p hp q hq=>ao' p hp q ?_) hs2 (λ p hp q hq=>?_) (ho.mono hs),.cons (hi.mono hs) (hv.mono hs2)⟩
   · kso_open hp
   · kso_open hq
   · rcases mem_append.mp hq with hq | hq
     · rcases mem_append.mp hp with hp | hp
       · exact ao' p hp q (by k_flat)
       · exact S.af p (by kso_open hp) q hq
     · exact hf p (by kso_open hp) q hq
end
theorem lookup_init (W:Wd) (own:Ow) (x dx:Addr):Tl W false 297 3 [.ptr x] ((x,.obj 368 dx)::(dx,.fld [])::own) λ m o=>m = .none/\∃fs o1 o2,Dl o x (.obj 368 dx) o1/\Dl o1 dx (.fld fs) o2/\∃T R,fs=[("table",.ptr T),("trailer",.ptr R)]/\o2=(R,.dct [])::(T,.ict [])::own:=by
 ctx_has W own x dx
 refine λ fz=>TlF.enterD (dfs:=[.none,.none]) (dms:=[.none,.none]) [("self",false),("table",false),("trailer",false)] rfl (by kernel_rfl) (λ N=>.cons .none (.cons .none .nil)) (by repeat constructor) (OkI.of (by kernel_rfl)) (λ s vs X e=>?_) rfl rfl λ c zz=>?_
 · revert vs;exact len1 λ zz=>binds_K X rfl rfl rfl rfl rfl
 k_all
 refine kC2.isY ?_
 k_all
 refine WE.ict0 λ T=>?_
 k_all
 refine kC2.isY ?_
 k_all
 refine WE.dict0 λ R=>?_
 k_all
 exact kFin.of (own₀:=[]) (vals:=[]) ⟨rfl,_,_,_,.tail (.tail .head),.tail (.tail .head),T,R,rfl,rfl⟩
theorem shelf_new {W:Wd} {I:Info} {r:Nat} {c:Cx W I r} {vals:Vs} {own:Ow} {K:KV} (h:∀T R,K (mShelf T R) vals ((R,.dct [])::(T,.ict [])::own)) (hr:autoParam (4<=r) aD) (hI:autoParam (I.hb=false) aR):kCall c (.ref 368) [] K [] vals own :=
 kCall.newX (λ x dx=>lookup_init W own x dx) (λ fs o2 ⟨T,R,e1,e2⟩=>e1 ▸ e2 ▸ h T R) (by kernel_rfl) (by kernel_rfl) (by kernel_rfl) hr (.inr hI)
theorem tabP_get {tab:List (Int×Kvs)} {n:Int} {kv:Kvs} {d:Addr} (h:tGet tab n=some kv):mGet (tabP tab n d) n=some (.tup [.int 0,.ptr d]):=by
 ctx_has tab n kv d
 refine E1_2 (Option.map_eq_some_iff.mp h) λ p hp zz=>?_
 have q:p.1=n:=by simpa using List.find?_some hp
 have key:∀ {l:List (Int×Kvs)},l.find? (λ p=>p.1=n)=some p->(tabP l n d).find? (λ p=>p.1=n)=some (n,.tup [.int 0,.ptr d]):=by
  intro l
  induction l with
  | nil=>intro h;f_shut h
  | cons x r ih =>
   intro h
   show List.find? _ ((x.1,if x.1=n then MV.tup [.int 0,.ptr d] else rowMV x.2)::tabP r n d)=_
   by_cases e:x.1=n
   · rw [if_pos e,List.find?_cons_of_pos (by simpa using e),e]
   · rw [List.find?_cons_of_neg (by simpa using e)] at h ⊢
     exact ih h
 unfold mGet
 rw [key hp];rfl
theorem kr_in:kRot∈KEYS:=by decide+kernel
theorem kcr_in:kCrop∈KEYS:=by decide+kernel
theorem km_in:kMedia∈KEYS:=by decide+kernel
theorem kn_in:kN∈KEYS:=by decide+kernel
theorem kr_i:kRot∈INHS:=by decide+kernel
theorem kcr_i:kCrop∈INHS:=by decide+kernel
theorem km_i:kMedia∈INHS:=by decide+kernel
theorem kn_ni:kN∉INHS:=by decide+kernel
theorem put_off {kv:Kvs} {k x:Str} {v:MV} (h:x≠k):mGet (mPut kv k v) x=mGet kv x:=by rw [mGet_put,if_neg h]
theorem hand_ok {kv:Kvs} {rv cv:Option MV} (g:GK kv) (hr:HandV rv) (hc:HandV cv):GK (hand1 kCrop (hand1 kRot kv rv) cv)/\(∀k,k∉INHS->mGet (hand1 kCrop (hand1 kRot kv rv) cv) k=mGet kv k):=by
 have g1:GK (hand1 kRot kv rv)/\(∀k,k∉INHS->mGet (hand1 kRot kv rv) k=mGet kv k):=by
  induction rv with
  | none=>exact ⟨g,λ zz zz=>rfl⟩
  | some x=>exact ⟨g.put kr_in (hr.ok x rfl).1 λ zz=>(hr.ok x rfl).2,λ k hk=>put_off λ e:k=kRot=>hk (by rw [e];exact kr_i)⟩
 induction cv with
 | none=>exact g1
 | some x=>exact ⟨g1.1.put kcr_in (hc.ok x rfl).1 λ zz=>(hc.ok x rfl).2,λ k hk=>(put_off λ e:k=kCrop=>hk (by rw [e];exact kcr_i)).trans (g1.2 k hk)⟩
theorem drawn_gk (i:Int):GK [(kN,.int i)]:=by
 have e:[(kN,MV.int i)]=mPut [] kN (.int i):=rfl
 rw [e];exact GK.nil.put kn_in (.int _) λ q=>absurd q kn_ni
theorem drawn_ok (i:Int) {rv cv:Option MV} (hr:HandV rv) (hc:HandV cv):DrawOk (hand1 kCrop (hand1 kRot [(kN,.int i)] rv) cv):=by
 obtain ⟨a,b⟩:=hand_ok (drawn_gk i) hr hc
 have e:∀x,x≠kN->mGet [(kN,MV.int i)] x=none:=λ x hx=>by
  have:¬ kN=x:=λ e=>hx e.symm
  simp [mGet,this]
 exact ⟨a,by rw [mGetD,b _ kk_ni,e _ (by decide+kernel)];rfl,by rw [mGetD,b _ kc_ni,e _ (by decide+kernel)];rfl⟩
theorem TreeS.row {tab:List (Int×Kvs)} {rc n0:Int} {kv0:Kvs} {ks:Fo} {K:Nat} (h:TreeS tab rc n0 kv0 ks K) {n:Int} {kv:Kvs} (hn:tGet tab n=some kv) (h0:0 < ks.nl) (hk:mGet kv kKids≠none):mGet kv kType≠none/\∀p∈tab,p.1≠n->Dif p.2 kv:=by
 revert h;ctx_has tab rc n0 kv0 ks K n kv
 have hnd:(tab.map (λ zz=>zz.1)).Nodup:=by rw [h.keys];exact keysTo_nd _
 refine ⟨λ e=>?_,λ p hp hne=>h.uniq h0 hn (tGet_of_mem hnd p hp) hk hne⟩
 · rcases h.all n (by rw [←h.keys];exact tGet_key hn) with rfl | hin
   · exact hk (h.catK _ hn)
   · have key:∀ {f:Fo},Fo.T tab f->n∈f.nums->mGetD kv kType≠.none:=by
      intro f
      induction f with
      | nil=>intro zz h;f_shut h
      | page m k r ih =>
       intro t hin
       rcases mem_cons.mp hin with rfl | hin
       · have:=t.1;rw [hn] at this;f_shut this;rw [t.2.2.1];intro q;f_shut q
       · exact ih t.2.2.2.2 hin
      | node m k ks r ih1 ih2 =>
       intro t hin
       rcases mem_cons.mp hin with rfl | hin
       · have:=t.1;rw [hn] at this;f_shut this;rw [t.2.2.1];intro q;f_shut q
       · exact (mem_append.mp hin).elim (ih1 t.2.2.2.2.1) (ih2 t.2.2.2.2.2)
     exact key h.t hin (by rw [mGetD,e];rfl)
theorem media_flat:FlatV (.lst [.int 0,.int 0,.int 9,.int 9])/\NoRef (.lst [.int 0,.int 0,.int 9,.int 9]) :=
 ⟨.lst (λ v hv=>by
  simp only [mem_cons,not_mem_nil,or_false] at hv
  rcases hv with rfl | rfl | rfl | rfl <;> exact .int _) (by decide),.lst _⟩
theorem sv_ref (n:Int):Sv (mRef n):=(PlainV.ref n).sv
theorem sv_shelf (T R:Addr):Sv (mShelf T R):=.inst (λ p hp=>by
 simp only [mem_cons,not_mem_nil,or_false] at hp;rcases hp with rfl | rfl <;> rfl) λ p hp=>by
 simp only [mem_cons,not_mem_nil,or_false] at hp;rcases hp with rfl | rfl <;> exact .ptr _
theorem sv_rest {R P C:Addr} {ns:List Int} {i:Nat} {g:Int} (rc:Int):∀p∈[(R,OV.dct (trlM (some rc)))]++OwP [] P C ns i g [],SvO p.2:=λ p hp=>by
 simp only [cons_append,List.nil_append,mem_cons,not_mem_nil,or_false] at hp
 rcases hp with rfl | rfl | rfl
 · exact .dct λ p hp=>by rw [mem_singleton.mp hp];exact sv_ref _
 · exact .lst λ m hm=>by
    simp only [mem_cons,not_mem_nil,or_false] at hm;rcases hm with rfl | rfl | rfl;exact .ptr _;exact .int _;exact .int _
 · exact .lst λ m hm=>by refine E1_2 (mem_map.mp hm) λ z zz e0_2=>?_;subst e0_2;exact .int _
theorem tree_ok (W:Wd) {P C:Addr} {ns:List Int} (hns:ns.length<=40) :
 TlF W false 614 40 [.ptr P] (OwP [] P C ns 0 0 []) (λ m o=>∃T R i g tab rc n0 kv0 ks K,m=mShelf T R/\o=OwP [(R,.dct (trlM (some rc))),(T,.ict (tabM tab))] P C ns i g []/\i<=300/\0<=g/\TreeS tab rc n0 kv0 ks K/\mGetD kv0 kMedia≠.none/\0 < ks.nl/\ks.nl<=6/\K<=22) []:=by
 ctx_has W P C ns
 refine TlF.enter [("pen",false),("shelf",false),("drawn",false),("at",false),("head",false),("root",false),("number",false)] rfl (by kernel_rfl) (by repeat constructor) (OkI.of (by kernel_rfl)) (len1 λ zz=>rfl) rfl rfl λ c hfz=>?_
 ctx_has c
 refine WS.unpS (names:=[Str.ofString "shelf",Str.ofString "drawn"]) ?_
 refine WE.tup ?_
 refine WA.cons ?_
 refine WE.call0 gl_Shelf ?_
 refine shelf_new λ T R=>?_
 ctx_has T R
 k_all
 refine WE.lst (WA.nil (kLst.mk λ D=>?_))
 ctx_has D
 k_all
 refine kUnp.t rfl (.cons (by ktn_open) (.cons (by ktn_open) .nil)) ?_
 refine WS.forR ?_ cls_range (by kernel_rfl)
 k_all
 ktr_call gl_law_draw call
 refine kCall.use (draw_ok (pre:=[(D,.lst []),(R,.dct []),(T,.ict [])]) W hns (by decide) (Int.le_refl 0) (m0:=6) (by decide) (by decide)) (h:=?_)
 intro m9 o9 hE1;refine EV3_3 m9 o9 hE1 λ i1 g1 d1 hi1 hg1 hd1=>?_;clear hE1 m9 o9
 ctx_has i1 g1 d1
 k_all
 obtain ⟨n1,hn1⟩:∃n1,n1=1+d1:=⟨_,rfl⟩
 ctx_has n1
 rw [show (1:Int)+(d1:Int)=((n1:Nat):Int) by simp+arith [*]]
 refine kRng.mk (λ i vals o=>∃x3 x4 hs i2 g2,vals=[some (.ptr P),some (mShelf T R),some (.ptr D),x3,x4,none,none]/\o=OwP [(D,.lst (hs.map .dct)),(R,.dct []),(T,.ict [])] P C ns i2 g2 []/\hs.length=i/\(∀kv∈hs,DrawOk kv)/\i2<=1+4 * i/\0<=g2) ⟨none,none,[],i1,g1,rfl,rfl,rfl,(λ zz h=>nomatch h),by omega,hg1⟩ ?_ ?_ (by lia)
 · intro c' i vals o hi hE2;refine EV5_4 vals o hE2 λ x3 x4 hs i2 g2 hsl hsd hi2 hg2=>?_;clear hE2 vals o
   revert hi;ctx_has c' i x3 x4 hs i2 g2
   refine ⟨_,by ktn_open,?_⟩
   k_all
   refine WE.dct1 λ d=>?_
   ctx_has d
   k_all
   refine kD1.mk .head ?_
   k_all
   ktr_call gl_law_handed call
   refine kCall.use (handed_ok (pre:=[(D,.lst (hs.map .dct)),(R,.dct []),(T,.ict [])]) W hns (by lia) hg2 (kvs:=[(kN,.int (i:Int))]) (Nat.le_of_ble_eq_true rfl)) (h:=?_)
   rintro _ _ ⟨rfl,rv,cv,i3,g3,rfl,hi3,hg3,hrv,hcv⟩
   ctx_has rv cv i3 g3
   refine WS.frz .head .dct (by kpc_g) ?_
   refine WS.exp ?_
   refine WE.methB (x:=Str.ofString "append") (id:="list.append") ?_
   refine WE.name (by ktr_rel) ?_
   refine kMb.append (.o (.head _)) ?_
   k_all
   refine ON.append .head (by rw [length_map];lia) ?_
   k_all
   refine ⟨_,_,hs++[_],i3,g3,rfl,by rw [map_append];rfl,by simp [hsl],λ kv hkv=>?_,by lia,hg3⟩
   rcases mem_append.mp hkv with h | h
   · exact hsd kv h
   · rw [mem_singleton.mp h];exact drawn_ok _ hrv hcv
 · intro vals o hE4;refine EV5_4 vals o hE4 λ x3 x4 hs i2 g2 hsl hsd hi2 hg2=>?_;clear hE4 vals o
   ctx_has x3 x4 hs i2 g2
   refine kSeq.nx (WS.frz .head .lst (by kpc_g) ?_)
   k_all
   ktr_call gl_build_pages call
   ktr_call gl_law_draw call
   refine kCall.use (draw_ok (pre:=[(R,.dct []),(T,.ict [])]) W hns (by lia) hg2 (m0:=2) (by decide) (by decide)) (h:=?_)
   intro m9 o9 hE5;refine EV3_3 m9 o9 hE5 λ i3 g3 d2 hi3 hg3 hd2=>?_;clear hE5 m9 o9
   ctx_has i3 g3 d2
   k_all
   rw [show (2:Int)+(d2:Int)=((2+d2:Nat):Int) by rfl]
   obtain ⟨tabL,lL,fL,b1,b2,b3,b4,b5,tabF,kvF,ksF,b6,b7,b8⟩:=built hsd (by simp+arith [*]) (by lia) (2+d2) (by exact Nat.le_add_right _ _)
   revert b1 b2 b3 b4 b5;ctx_has tabL lL fL tabF kvF ksF
   refine kCall.md (build_ok W (post:=OwP [] P C ns i3 g3 []) (by lia) (by simp+arith [*]) (λ kv h=>⟨(hsd kv h).gk.flat,Nat.le_trans (hsd kv h).gk.len (by decide),(hsd kv h).gk.nd⟩) (by exact Nat.le_add_right _ _) (by lia) b1 (by exact Nat.le_trans (by assumption) (by decide)) (by omega) b4 (hab_of _) b5 b6) ?_
   have hkl:tabL.length+2<=22:=by simp+arith [*]
   obtain ⟨K,hK⟩:∃K,K=tabL.length+2:=⟨_,rfl⟩
   obtain ⟨rc,hrc⟩:∃rc,rc=(tabL.length:Int)+1+1:=⟨_,rfl⟩
   obtain ⟨n0,hn0⟩:∃n0,n0=(tabL.length:Int)+1:=⟨_,rfl⟩
   revert hK hrc;ctx_has K rc n0
   rw [←hK,← hrc,← hn0] at b7
   revert hrc;ctx_has rc n0
   rw [←hrc,← hn0]
   rw [←hK] at hkl
   clear hK hrc hn0 b1 b2 b3 b4 b5 b6
   ctx_has rc n0
   k_all
   refine WS.fg (.same (.same (.off (.off (.off (.same (.same .nil))))))) ?_
   refine WS.for ?_
   refine' WE.methF0 (f:=353) (x:=Str.ofString "numbers") ?_ (by kernel_rfl)
   k_all
   refine kMf0.inst mt_numbers ?_
   refine kCall.use (numbers_own W R (tab:=tabF) (k:=K) (.tail _ (.head _)) (by exact Nat.lt_of_le_of_lt (by assumption) (by decide)) b7.keys) (h:=?_)
   intro m9 o9 hE7;refine EV1_0 m9 o9 hE7 λ a=>?_;clear hE7 m9 o9
   ctx_has a
   refine kForX.ints .head (λ i vals o=>∃x4 x6 i4 g4 tab kv0 ks,vals=[some (.ptr P),some (mShelf T R),none,none,x4,some (mRef n0),x6]/\o=OwP [(R,.dct (trlM (some rc))),(T,.ict (tabM tab))] P C ns i4 g4 []/\i4<=50+4 * i/\0<=g4/\TreeS tab rc n0 kv0 ks K/\ks.nl=n1)
    ⟨_,_,i3,g3,tabF,kvF,ksF,rfl,rfl,by lia,hg3,b7,b8.trans hsl⟩ ?_ ?_
   · intro c2 i z vals o ef hz hE8;refine EV7_4 vals o hE8 λ y4 x6 i4 g4 tab kv0 ks hi4 hg4 hTr hnl=>?_;clear hE8 vals o
     revert ef hz;ctx_has c2 i z y4 x6 i4 g4 tab kv0 ks
     have hi22:i < K:=by have:=(List.getElem?_eq_some_iff.mp hz).1;unfold keysTo at this;simp_all
     obtain ⟨kv,hkv⟩:=tGet_has (show z∈tab.map (λ zz=>zz.1) by rw [hTr.keys];exact mem_of_getElem? hz)
     ctx_has kv
     refine ⟨_,by ktn_open,?_⟩
     refine WS.fg (.same (.same (.same (.same (.off (.same (.same .nil))))))) ?_
     cases hkk:mGet kv kKids with
     | none =>
      k_all
      refine kSb2.int (.o (.tail _ (.head _))) (tab_get hkv) ?_
      k_all
      refine kSb2.itT (i:=1) rfl rfl (Nat.le_of_ble_eq_true rfl) ?_
      k_all
      refine kC2.inS (b:=false) .t (by rw [show mGet kv (Str.ofString "Kids")=none from hkk];rfl) ?_
      k_all
      exact ⟨_,_,i4,g4,tab,kv0,ks,rfl,rfl,by lia,hg4,hTr,hnl⟩
     | some kks =>
      ctx_has kks
      have hkn:mGet kv kKids≠none:=by rw [hkk];intro q;f_shut q
      obtain ⟨hty,hu⟩:=hTr.row hkv (by simp+arith [*]) hkn
      refine WS.thaw (T:=T) (pre:=[(R,.dct (trlM (some rc)))]) (post:=OwP [] P C ns i4 g4 []) (ef.trans hfz) hkv hty (λ p hp=>(hTr.gt p hp).flat) hkn hu (λ m hm=>?_) (sv_rest rc) λ d=>?_
      · simp only [mem_cons,Option.some.injEq,not_mem_nil,or_false,reduceCtorEq,false_or] at hm
        rcases hm with rfl | rfl | rfl | rfl
        · exact .ptr _
        · exact sv_shelf _ _
        · exact sv_ref _
        · exact .int _
      ctx_has d
      k_all
      refine kSb2.int (.o (.tail _ (.tail _ (.head _)))) (tabP_get hkv) ?_
      k_all
      refine kSb2.itT (i:=1) rfl rfl (Nat.le_of_ble_eq_true rfl) ?_
      k_all
      refine kC2.inS (b:=true) (.o (.head _)) (by rw [show mGet kv (Str.ofString "Kids")=some kks from hkk];rfl) ?_
      k_all
      ktr_call gl_law_handed call
      refine kCall.use (handed_ok (pre:=[(R,.dct (trlM (some rc))),(T,.ict (tabP tab z d))]) W hns (by lia) hg4 (Nat.le_trans (hTr.gt.at hkv).len (by decide))) (h:=?_)
      rintro _ _ ⟨rfl,rv,cv,i5,g5,rfl,hi5,hg5,hrv,hcv⟩
      obtain ⟨g9,he9⟩:=hand_ok (hTr.gt.at hkv) hrv hcv
      refine E1_2 (hTr.set hkv g9 he9) λ ks2 hTr2 hnl2=>?_
      revert hi5 hg5 hrv hcv g9 he9;ctx_has rv cv i5 g5 ks2
      refine WS.nil (kSeq.nx ?_)
      refine WS.refrz (pre:=[(R,.dct (trlM (some rc)))]) (post:=OwP [] P C ns i5 g5 []) ⟨kv,hkv⟩ (by kpc_g) ?_
      k_all
      exact ⟨_,_,i5,g5,_,_,ks2,rfl,rfl,by lia,hg5,hTr2,hnl2.trans hnl⟩
   · intro vals o hE11;refine EV7_4 vals o hE11 λ y4 x6 i4 g4 tab kv0 ks hi4 hg4 hTr hnl=>?_;clear hE11 vals o
     ctx_has y4 x6 i4 g4 tab kv0 ks
     rw [show (keysTo K).length=K by simp [keysTo]] at hi4
     refine kSeq.nx (WS.fg (.same (.same (.same (.same (.off (.same (.off .nil))))))) ?_)
     have hkn:mGet kv0 kKids≠none:=λ q=>by
      have:=hTr.t.2.2.2.1
      rw [mGetD,q] at this;f_shut this
     obtain ⟨hty,hu⟩:=hTr.row hTr.t.1 (by simp+arith [*]) hkn
     refine WS.thaw (T:=T) (pre:=[(R,.dct (trlM (some rc)))]) (post:=OwP [] P C ns i4 g4 []) hfz hTr.t.1 hty (λ p hp=>(hTr.gt p hp).flat) hkn hu (λ m hm=>?_) (sv_rest rc) λ d=>?_
     · simp only [mem_cons,Option.some.injEq,not_mem_nil,or_false,reduceCtorEq,false_or] at hm
       rcases hm with rfl | rfl | rfl
       · exact .ptr _
       · exact sv_shelf _ _
       · exact sv_ref _
     ctx_has d
     k_all
     refine WE.frz (WE.lst ?_)
     k_all
     refine kLst.mk λ a6=>kFrz.lst .head ?_
     ctx_has a6
     k_all
     refine kSb2.int (.o (.tail _ (.tail _ (.head _)))) (tabP_get hTr.t.1) ?_
     k_all
     refine kSb2.itT (i:=1) rfl rfl (Nat.le_of_ble_eq_true rfl) ?_
     k_all
     refine kSet.str .head (Nat.le_trans (hTr.gt.at hTr.t.1).len (by decide)) ?_
     have g9:GK (mPut kv0 kMedia (.lst [.int 0,.int 0,.int 9,.int 9])):=(hTr.gt.at hTr.t.1).put km_in media_flat.1 λ zz=>media_flat.2
     have he9:∀k,k∉INHS->mGet (mPut kv0 kMedia (.lst [.int 0,.int 0,.int 9,.int 9])) k=mGet kv0 k:=λ k hk=>put_off λ e:k=kMedia=>hk (by rw [e];exact km_i)
     refine E1_2 (hTr.set hTr.t.1 g9 he9) λ ks2 hTr2 hnl2=>?_
     ctx_has ks2
     rw [if_pos rfl] at hTr2
     refine WS.refrz (pre:=[(R,.dct (trlM (some rc)))]) (post:=OwP [] P C ns i4 g4 []) ⟨kv0,hTr.t.1⟩ (by kpc_g) ?_
     k_all
     exact kFin.of (own₀:=[]) (vals:=[]) ⟨T,R,i4,g4,_,rc,n0,_,ks2,K,rfl,rfl,by lia,hg4,hTr2,(by rw [mGetD_put,if_pos rfl];intro q;f_shut q),(by simp+arith [*]),(by lia),hkl⟩
theorem is_full_ok (W:Wd) {T R:Addr} {own:Ow} {tab root} (S:Shf own T R tab root) {ckv:Kvs} (hr:rootKvs tab root=some ckv) {n0:Int} (hp:mGet ckv (Str.ofString "Pages")=some (mRef n0)) {kv0:Kvs} (hn:tGet tab n0=some kv0) {ks:List Int} (hk:mGet kv0 (Str.ofString "Kids")=some (mRefs ks)) {m0:Nat} (hF:FRun tab ks m0) (hm:m0<=60) :
 Rd W false 631 14 [mShelf T R] own (.bool true):=by
 revert S hr hp hn hk;ctx_has W T R own tab root ckv n0 kv0 ks m0
 have hkl:=hF.len
 ktr_call [("shelf",false),("root",false),("line",false),("head",false)] enter
 k_all
 refine kCall.rd (root_ok W S hr) ?_
 k_all
 refine kSb2.str .t hp ?_
 k_all
 refine kCall.rd (fetch_ref W S hn) ?_
 k_all
 refine WE.ty1 ?_ cls_list (by kernel_rfl) (by decide+kernel)
 k_all
 refine kSb2.str .t hk ?_
 refine kF1.listL .t (by rw [length_map];lia) λ a0=>?_
 ctx_has a0
 k_all
 refine WS.while (n₀:=m0) (λ n vals o=>∃a l x,vals=[some (mShelf T R),some (.dct kv0),some (.ptr a),x]/\o=(a,.lst (mRefsL l))::own/\FRun tab l n/\n<=60) ⟨a0,ks,none,rfl,rfl,hF,hm⟩ ?_
 intro n vals o hE0;ctx_has n vals o;refine EV3_2 vals o hE0 λ a l x hR hn60=>?_;ctx_has a l x;clear hE0 vals o
 k_all
 refine WE.frz (WE.lst (WA.nil (kLst.mk λ zz=>kFrz.lst .head ?_)))
 induction hR with
 | nil =>
  refine kC2.neNilL (b:=false) (.o (.head _)) rfl ?_
  k_all
  exact kFin.drop (vals:=[]) kFin.end
 | @page l k kv m f1 f2 f3 f4 =>
  ctx_has l k kv m
  have hl:=f4.len
  refine kC2.neNilL (b:=true) (.o (.head _)) (by simp) ?_
  k_all
  rw [show mRefsL (l++[k])=mRefsL l++[mRef k] from map_append]
  refine ON.pop .head (by rw [length_map];lia) ?_
  k_all
  refine kCall.rd (fetch_ref W S.c f1) ?_
  k_all
  refine kC2.inS (b:=false) .t (by rw [show mGet kv (Str.ofString "Kids")=none from f2];rfl) ?_
  k_all
  exact kWT.nx (k:=m) (Nat.lt_succ_self m) ⟨a,l,_,rfl,rfl,f4,by exact Nat.le_of_lt (by assumption)⟩
 | @node l k kv ks2 c2 m f1 f2 f3 f4 f5 f6 f7 f8 =>
  ctx_has l k kv ks2 c2 m
  have hl:=f8.len
  rw [length_append] at hl
  refine kC2.neNilL (b:=true) (.o (.head _)) (by simp) ?_
  k_all
  rw [show mRefsL (l++[k])=mRefsL l++[mRef k] from map_append]
  refine ON.pop .head (by rw [length_map];lia) ?_
  k_all
  refine kCall.rd (fetch_ref W S.c f1) ?_
  k_all
  refine kC2.inS (b:=true) .t (by rw [show mGet kv (Str.ofString "Kids")=some (mRefs ks2) from f2];rfl) ?_
  k_all
  refine kSb2.str .t f2 ?_
  k_all
  refine WE.frz (WE.lst (WA.nil (kLst.mk λ zz=>kFrz.lst .head ?_)))
  refine kC2.eqNilL (b:=false) .t (by induction ks2 with | nil=>exact absurd rfl f3 | cons=>rfl) ?_
  k_all
  refine kSb2.str .t f5 ?_
  k_all
  refine kC2.lt (d:=false) (decide_eq_false (by lia)) ?_
  k_all
  refine kSb2.str .t f2 ?_
  refine kB2.addL (.o (.head _)) .t (by rw [length_map,length_map];lia) λ a3=>?_
  ctx_has a3
  refine kAsg.mk (by ktn_open) (WS.frz (.tail .head) .lst (by kpc_g) ?_)
  k_all
  exact kWT.nx (k:=m) (Nat.lt_succ_self m) ⟨a3,l++ks2,_,rfl,by rw [show mRefsL (l++ks2)=mRefsL l++ks2.map mRef from map_append],f8,by exact Nat.le_of_lt (by assumption)⟩
theorem erase_map {α β:Type} (f:α->β):∀ (l:List α) (i:Nat),(l.eraseIdx i).map f=(l.map f).eraseIdx i
 | [],_=>rfl
 | _::_,0=>rfl
 | x::r,i+1=>by simp [erase_map f r i]
noncomputable def ins (l:List (List MV)) (i:Nat) (x:List MV):List (List MV):=l.take i++[x]++l.drop i
theorem ins_erase {l:List (List MV)} {i:Nat} {x:List MV} (h:l[i]? = some x):ins (l.eraseIdx i) i x=l:=by
 unfold ins
 obtain ⟨hi,hx⟩:=List.getElem?_eq_some_iff.mp h
 rw [List.eraseIdx_eq_take_drop_succ,List.take_append_of_le_length (by simp;lia),List.take_take,Nat.min_self,List.drop_append_of_le_length (by simp;lia)]
 rw [show List.drop i (List.take i l)=[] by simp]
 conv=>rhs;rw [←List.take_append_drop i l]
 rw [List.drop_eq_getElem_cons hi,hx]
 simp
noncomputable def insG (l:List (List MV)) (g:Nat×Kvs):List (List MV):=ins l g.1 (fldsOf g.2)
structure GoneOk (kv0:Kvs) (first:List (List MV)) (rows:List (Int×List MV)) (gone:List (Nat×Kvs)) (P0:Nat):Prop where
 own:∀g∈gone,Own kv0 g.2
 len:gone.length+rows.length=P0
 idx:∀ (m:Nat) (g:Nat×Kvs),gone[m]? = some g->g.1+m < P0
 back:gone.reverse.foldl insG (rows.map (λ zz=>zz.2))=first
theorem GoneOk.step {kv0 kv1:Kvs} {first:List (List MV)} {rows:List (Int×List MV)} {gone:List (Nat×Kvs)} {P0 i:Nat} {r:Int×List MV} {own:Kvs} (h:GoneOk kv0 first rows gone P0) (hr:rows[i]? = some r) (ho:Own kv1 own) (hf:fldsOf own=r.2) (hi:∀k∈INHS,mGetD kv1 k=mGetD kv0 k) :
 GoneOk kv1 first (rows.eraseIdx i) (gone++[(i,own)]) P0:=by
 have hil:=(List.getElem?_eq_some_iff.mp hr).1
 have hlen:=h.len
 refine ⟨λ g hg=>?_,?_,λ m g hm=>?_,?_⟩
 · rcases mem_append.mp hg with hg | hg
   · exact (h.own g hg).up hi
   · rw [mem_singleton.mp hg];exact ho
 · rw [length_append,List.length_eraseIdx];simp [hil];lia
 · by_cases e:m < gone.length
   · rw [List.getElem?_append_left e] at hm;exact h.idx m g hm
   · rw [List.getElem?_append_right (by lia)] at hm
     have e0:m - gone.length=0:=by
      have:=(List.getElem?_eq_some_iff.mp hm).1
      simp at this;omega
     rw [e0] at hm
     f_shut hm
     show i+m < P0
     lia
 · rw [List.reverse_append]
   show (gone.reverse).foldl insG (insG ((rows.eraseIdx i).map (λ zz=>zz.2)) (i,own))=first
   rw [←h.back]
   congr 1
   show ins ((rows.eraseIdx i).map (λ zz=>zz.2)) i (fldsOf own)=_
   rw [hf]
   have:(rows.eraseIdx i).map (λ zz=>zz.2)=(rows.map (λ zz=>zz.2)).eraseIdx i:=erase_map _ _ _
   rw [this]
   exact ins_erase (by rw [getElem?_map,hr];rfl)
noncomputable abbrev goneMV (g:Nat×Kvs):MV:=.tup [.int (g.1:Nat),.dct g.2]
theorem hf_of {tab:List (Int×Kvs)} {f:Fo} (t:Fo.T tab f):∀s∈Fo.sp [] [] f,(∀p∈fieldsF s.kvs s.inh,FlatV p.2)/\(fieldsF s.kvs s.inh).length<=60:=λ s hs =>
 have q:=Fo.sp_all f [] [] t InhOk.nil s hs
 have g:=q.1.fields q.2.1
 ⟨g.flat,Nat.le_trans g.len (by decide)⟩
theorem rows_eq (n0:Int) (kv0:Kvs) (ks:Fo):((spR n0 kv0 ks).filter (λ zz=>zz.pg)).map rowOf=flR n0 kv0 ks:=Fo.sp_fl _ [] []
theorem flat_of {tab:List (Int×Kvs)} {rc n0:Int} {kv0:Kvs} {L:List (Int×Kvs)} {K:Nat} (h:St tab rc n0 kv0 (Fo.flat L) K) :
 ∃lv,spR n0 kv0 (Fo.flat L)=⟨n0,kv0,[],givenF [] kv0,false⟩::lv/\lv.length=L.length/\Flat n0 ⟨n0,kv0,[],givenF [] kv0,false⟩ lv (L.map (λ zz=>zz.1)):=by
 have e:=Fo.flat_sp ([]++[n0]) (givenF [] kv0) L
 refine ⟨Fo.sp ([]++[n0]) (givenF [] kv0) (Fo.flat L)++[],rfl,?_,⟨rfl,rfl,?_,?_,λ s hs=>?_,λ s hs=>?_⟩⟩
 · rw [append_nil,e,length_map]
 · have:=h.t.2.2.2.1;rw [Fo.flat_tops] at this;exact this
 · rw [append_nil,e,map_map];rfl
 · rw [append_nil,e] at hs;refine E1_2 (mem_map.mp hs) λ p zz e0_2=>?_;subst e0_2;rfl
 · rw [append_nil,e] at hs;refine E1_2 (mem_map.mp hs) λ p zz e1_2=>?_;subst e1_2;rfl
theorem ins_map (l:List (Int×List MV)) (i:Nat) (n:Int) (x:List MV):(l.take i++[(n,x)]++l.drop i).map (λ zz=>zz.2)=ins (l.map (λ zz=>zz.2)) i x:=by
 unfold ins
 rw [map_append,map_append,List.map_take,List.map_drop];rfl
theorem GoneOk.at {kv0:Kvs} {first:List (List MV)} {rows:List (Int×List MV)} {gone:List (Nat×Kvs)} {P0 i:Nat} {g:Nat×Kvs} (h:GoneOk kv0 first rows gone P0) (hr:rows=[]) (e:gone.reverse[i]? = some g):g.1<=i/\g∈gone:=by
 have hi:=(List.getElem?_eq_some_iff.mp e).1
 rw [length_reverse] at hi
 rw [List.getElem?_reverse hi] at e
 have h1:=h.idx _ g e
 have h2:=h.len
 rw [hr] at h2
 refine ⟨?_,mem_of_getElem? e⟩
 simp at h2;omega
noncomputable def TF (fs:List MV):Prop:=∀v∈fs,EqF 2 v
theorem fldsOf_flat {kvs:Kvs} (g:GK kvs):TF (fldsOf kvs):=λ v hv=>by
 refine E1_2 (mem_map.mp hv) λ k zz e2_2=>?_;subst e2_2
 refine toldV_flat ?_
 by_cases e:mGetD kvs k = .none
 · exact .inl e
 · exact .inr (g.flatD e)
theorem lists_flat {ls:List (List MV)} (h:∀r∈ls,TF r):∀v∈ls.map MV.lst,EqF 3 v:=λ v hv=>by
 refine E1_2 (mem_map.mp hv) λ r hr e3_2=>?_;subst e3_2
 exact .lst (h r hr)
theorem rows_flat {rows:List (Int×List MV)} (h:∀r∈rows,TF r.2):∀v∈rowsL rows,EqF 4 v:=λ v hv=>by
 refine E1_2 (mem_map.mp hv) λ r hr e4_2=>?_;subst e4_2
 refine .tup λ v hv=>?_
 rcases mem_cons.mp hv with rfl | hv
 · exact .int
 · rw [mem_singleton.mp hv];exact .lst (h r hr)
theorem Fo.fl_flat {tab:List (Int×Kvs)}:∀ (f:Fo) (inh:Kvs),Fo.T tab f->InhOk inh->∀r∈Fo.fl inh f,TF r.2
 | .nil,_,_,_,_,h=>nomatch h
 | .page n kv r,inh,t,hi,p,h=>by
  rcases mem_cons.mp h with rfl | h
  · exact fldsOf_flat (t.2.1.fields (hi.given t.2.1))
  · exact Fo.fl_flat r inh t.2.2.2.2 hi p h
 | .node n kv ks r,inh,t,hi,p,h=>by
  rcases mem_append.mp h with h | h
  · exact Fo.fl_flat ks _ t.2.2.2.2.1 (hi.given t.2.1) p h
  · exact Fo.fl_flat r inh t.2.2.2.2.2 hi p h
theorem remove_raises (W:Wd) {T R:Addr} {own:Ow} {tab root} (S:Shf own T R tab root) {n0:Int} {r0:SpR} (O:SpOk tab root n0 [r0]):TlX W 581 20 [mShelf T R,.int 0] own:=by
 have hpg:r0.pg=false:=O.h0 _ rfl
 refine TlX.enter [("shelf",true),("at",false),("found",false),("leaves",false),("spot",false),("counts",false),("gone",true),("node",false),("head",false),("kids",false)] rfl (by kernel_rfl) (by repeat constructor) (OkI.of (by kernel_rfl)) (len2 λ zz zz=>rfl) rfl rfl λ c hz=>?_
 k_all
 ktr_call gl_spots call
 refine kCall.rd (spots_ok W S O) ?_
 k_all
 refine kComp.lst (λ i l o=>l=[]/\o=own) .nil ⟨rfl,rfl⟩ ?_ ?_ (Nat.le_of_ble_eq_true rfl)
 · intro c' i mv l o hi hQ1;refine EV0_0 hQ1 ?_;clear hQ1 l o
   have e0:mv=r0.mv:=by
    cases i with
    | zero=>simpa using hi.symm
    | succ i=>cases i <;> f_shut hi
   subst e0
   obtain ⟨n,kvs,ab,inh,pg⟩:=r0
   obtain rfl:pg=false:=hpg
   k_all
   exact ⟨rfl,rfl⟩
 intro l o9 hQ2;refine EV0_0 hQ2 ?_;clear hQ2 l o9;intro a
 refine ⟨_,by ktn_open,?_⟩
 refine WS.frz .head .lst (by kpc_g) ?_
 k_all
 refine kCh2.t (by decide) ?_
 refine WE.bi1 ?_ cls_len (by kernel_rfl) (by decide+kernel)
 k_all
 refine kF1.lenL .t (Nat.le_of_ble_eq_true rfl) ?_
 refine kC2.lt (d:=false) (by decide) ?_
 k_all
 exact WS.raise hz
noncomputable def TlO (W:Wd) (f:Addr) (r:Nat) (args:List MV) (own:Ow) (Post:MV->Ow->Prop):Prop :=
 ∀ (fz:Lg) (dp un:Nat) (gd:Option (List Code)) (cn:Str) (cs:Scope) (a:Addr) (ccd:Value) (A₀:Around) (base h₀:Heap) (L:Addr) (m:Str->Option Value) (s:Shared) (R:Result->Shared->Prop) (ob kp:Lg) (vs:List Value),
  Below A₀ base [] h₀->(KH W).In base->TopV W base->Fr h₀ L s.heap m->(KH W).In h₀->News h₀ L s.heap (ob++(kp++fz))->(ob.map (λ zz=>zz.1)).Nodup->(∀p∈ob,∀q∈kp,p.1≠q.1)->(∀p∈ob++kp,∀q∈fz,p.1≠q.1) ->
  OAll W.w fz ob own->MAll W.w fz vs args->TopV W h₀->cs.kind = .function->dp+r < recursionLimit->un+8 * r < cLine ->
  (∀v mv own' ob' fz' h' tk',Post mv own'->Fr h₀ L h' m->News h₀ L h' (ob'++(kp++fz'))->(ob'.map (λ zz=>zz.1)).Nodup->(∀p∈ob',∀q∈kp,p.1≠q.1)->Ext fz fz'->(∀p∈ob'++kp,∀q∈fz',p.1≠q.1)->OAll W.w fz' ob' own'->MIn W.w fz' v mv->R (.ok (.ret v)) {s with heap:=h',toks:=tk'}) ->
  codeAny (model PG W.w) ({handled:=none,depth:=dp,frames:=some [envX cn cs L a ccd []],guards:=gd,units:=un}:Around) (.call (.ref f) ⟨vs,[]⟩) R s
theorem kCall.o {W:Wd} {I:Info} {r:Nat} {c:Cx W I r} {vals:Vs} {own:Ow} {f:Addr} {r':Nat} {first args:List MV} {Post:MV->Ow->Prop} {K:KV} (hou:c.outer=[]) (XB:(KH W).In c.base) (TB:TopV W c.base) (C:TlO W f r' (first++args) own Post)
 (h:∀mv own',Post mv own'->K mv vals own') (hr:autoParam (r'<=r) aD) (hcl:∀n,cellsFrom n I.cs.names []=[]:=by intro zz;rfl) (hhb:autoParam (I.hb=false) aR):kCall c (.ref f) first K args vals own:=by
 intro ws s vs ms Q e a hQ
 refine Cx.AtI.elS a e λ g tk m cm ob cel frz S hw hv=>?_
 have hnd:=S.nd
 rw [map_append,nodup_append] at hnd
 have hd:=S.k.hd
 have hu:=S.k.hu
 have hA:c.A={handled:=none,depth:=c.dp,frames:=some [envX I.cn I.cs c.L I.a I.ccd []],guards:=c.gd,units:=c.un}:=by
  have e:fEnv I c.L=envX I.cn I.cs c.L I.a I.ccd []:=by show envX _ _ _ _ _ (cellsFrom (c.L+1) I.cs.names [])=_;rw [hcl]
  unfold Cx.A;rw [S.k.hhb hhb,hou,e]
 rw [hA]
 refine wpAny_call (C frz c.dp c.un c.gd I.cn I.cs I.a I.ccd c.A₀ c.base c.h₀ c.L m _ _ ob (cel++c.old) ws (by have:=S.k.B;rwa [hou] at this) XB TB S.F S.k.X (by simpa using S.N) hnd.1 (λ p hp q hq=>?_) S.af S.ow hw S.k.T S.k.ok.hk (by lia) (by lia) ?_)
 · rcases mem_append.mp hq with hq | hq
   · exact hnd.2.2 _ (mem_map.mpr ⟨p,hp,rfl⟩) _ (mem_map.mpr ⟨q,hq,rfl⟩)
   · exact S.ao p (by k_flat) q hq
 · intro v mv own' ob' fz' h' tk' hP F' N' nd' ao' he hf ho hi
   exact hQ v mv _ vals own' (h mv own' hP) ⟨h',tk',m,cm,ob',cel,fz',S.back F' N' nd' ao' he hf ho,.cons hi (hv.mono he)⟩
theorem name_raw {W:Wd} {I:Info} {r:Nat} {c:Cx W I r} {vals:Vs} {own:Ow} {x:Str} {p:Pos} {mv:MV} {s:Shared} {vs:List Value} {ms:List MV} {Q E:Value->Shared->Prop} (n:Nm I.names vals x mv) (hcp:I.cp=none) (hl:∀p∈I.names,p.2=false) (a:c.At s vals own vs ms) (hd:(x == ("__debug__":Str))=false) (h:∀v,c.At s vals own (v::vs) (mv::ms)->Q v s):wpAny (model PG W.w) c.A (eval (.Name x p) c.env) Q E s:=by
 revert h
 refine Cx.AtI.el a λ g tk m cm ob cel frz S hv h=>?_
 refine E2_3 (S.kn.at n) λ b v hm hh hi=>?_
 have kd:=S.k.ok.kd _ hm
 have hb:=hl _ hm
 dsimp only at hb
 subst hb
 refine wpAny_Name ?_ hd
 have he:c.env.locals=c.L:=by unfold Cx.env cEnv;rw [hcp]
 unfold Cx.Holds at hh
 rw [hcp] at hh
 exact wpAny_loadName_local (m:=m) (cEnv_fk.trans S.k.ok.fk) (cEnv_kind.trans kd) (by rw [he];exact S.F.ns) hh (h v ⟨g,tk,m,cm,ob,cel,frz,S,.cons hi hv⟩)
theorem cx_start {W:Wd} {cn:Str} {cs:Scope} {f:Addr} {ccd:Value} {names:List (Str×Bool)} {r dp un:Nat} {gd:Option (List Code)} {hh:Option Value} {outer:List Env} {A₀ A':Around} {base g h:Heap} {L:Addr} {m:Str->Option Value} {s:Shared} {tk:Nat} {ob kp fz:Lg} {own:Ow} {vals:Vs}
 (ok:OkI ⟨cn,cs,f,ccd,names,true,none⟩) (eA:A'={handled:=hh,depth:=dp,frames:=some (envOf cn cs L f ccd::outer),guards:=gd,units:=un}) (hcl:cellsFrom (L+1) cs.names []=[]) (B:Below A₀ base outer g) (X:(KH W).In g) (T:TopV W g) (F:Fr g L h m) (N:News g L h (ob++(kp++fz)))
 (nd:(ob.map (λ zz=>zz.1)).Nodup) (ao:∀p∈ob,∀q∈kp,p.1≠q.1) (af:∀p∈ob++kp,∀q∈fz,p.1≠q.1) (ow:OAll W.w fz ob own) (hi:HIn hh (kp++fz)) (hd:dp+r < recursionLimit) (hu:un+8 * r < cLine) (hk:∀c:Cx W ⟨cn,cs,f,ccd,names,true,none⟩ r,c.Kn m (λ zz=>none) fz names vals)
 {body:List Stmt} {Q:Flow->Shared->Prop} {E:Value->Shared->Prop} (k:∀c:Cx W ⟨cn,cs,f,ccd,names,true,none⟩ r,A'=c.A->envOf cn cs L f ccd=c.env->c.E=(λ zz zz=>False)->c.h₀=g->c.L=L->c.old=kp->c.fz=fz->c.s=s->c.At {s with heap:=h,toks:=tk} vals own [] [] ->
  wpAny (model PG W.w) c.A (execs body c.env) Q E {s with heap:=h,toks:=tk}):wpAny (model PG W.w) A' (execs body (envOf cn cs L f ccd)) Q E {s with heap:=h,toks:=tk}:=by
 have eE:envOf cn cs L f ccd=fEnv ⟨cn,cs,f,ccd,names,true,none⟩ L:=by
  show _=envX cn cs L f ccd (cellsFrom (L+1) cs.names [])
  rw [hcl];rfl
 let c:Cx W ⟨cn,cs,f,ccd,names,true,none⟩ r:=⟨dp,un,gd,L,0,λ zz=>none,λ zz=>none,outer,A₀,base,g,s,λ zz zz=>False,kp,fz,hh⟩
 have e1:A'=c.A:=by rw [eA,eE];rfl
 have e2:envOf cn cs L f ccd=c.env:=eE
 have:=k c e1 e2 rfl rfl rfl rfl rfl rfl ⟨h,tk,m,λ zz=>none,ob,[],fz,⟨⟨B,X,T,ok,hd,hu,(λ q=>nomatch q),λ zz=>PassesOwn.never⟩,F,N,by simpa using nd,λ p hp=>ao p (by simpa using hp),λ p hp=>af p (by trivial),ow,by show CellsAre _ (cellsFrom (L+1) cs.names []) _;rw [hcl];exact .nil,hk c,hi,λ zz h=>h,λ q=>absurd rfl q⟩,.nil⟩
 rw [e1,e2];exact this
theorem WE.raw {W:Wd} {I:Info} {r:Nat} {c:Cx W I r} {vals:Vs} {own:Ow} {e:Expr} {K:KV} {s:Shared} {Q E:Value->Shared->Prop} (h:WE c e K vals own) (hE:c.E=λ zz zz=>False) (a:c.At s vals own [] []) (hQ:∀v mv s' vals' own',K mv vals' own'->c.At s' vals' own' [v] [mv]->Q v s'):wpAny (model PG W.w) c.A (eval e c.env) Q E s :=
 wpAny_mono (h s [] [] Q a λ v mv s' vals' own' hk a'=>hQ v mv s' vals' own' hk a') (λ zz zz h=>h) λ zz zz h=>by rw [hE] at h;exact h.elim
theorem WS.raw {W:Wd} {I:Info} {r:Nat} {c:Cx W I r} {vals:Vs} {own:Ow} {body:List Stmt} {K:KS} {s:Shared} {Q:Flow->Shared->Prop} {E:Value->Shared->Prop} (h:WS c body K vals own) (hE:c.E=λ zz zz=>False) (a:c.At s vals own [] []) (hQ:c.PF K Q):wpAny (model PG W.w) c.A (execs body c.env) Q E s :=
 wpAny_mono (h s Q a hQ) (λ zz zz h=>h) λ zz zz h=>by rw [hE] at h;exact h.elim
theorem refused_ok (W:Wd) {T R:Addr} {own:Ow} {tab root} (S:Shf own T R tab root) {n0:Int} {r0:SpR} (O:SpOk tab root n0 [r0]) {k:Nat} (hz:k < 60) (hk0:tab.map (λ zz=>zz.1)=keysTo k) (hg:∀p∈tab,(∀q∈p.2,FlatV q.2)/\p.2.length<=20) :
 TlO W 638 30 [mShelf T R] own (λ m o=>m = .bool true/\o=own):=by
 revert S O;ctx_has W T R own tab root n0 r0 k
 intro fz dp un gd cn cs a ccd A₀ base h₀ L m s R' ob kp vs B XB TB F X N nd ao af ow hv Tp hk hd hu ret
 ctx_has fz dp un gd cn cs a ccd A₀ base h₀ L m s R' ob kp vs
 refine hv.in1 λ v hv1=>?_
 ctx_has v
 refine code_defS0 (K:=KH W) (base:=base) (binds:=[(Str.ofString "shelf",v)]) B F X N Tp.toTop rfl rfl (by kernel_rfl) (by show dp < _;lia) (BindsTo.of_eq rfl) (λ y hy=>by rw [mem_singleton.mp hy];rfl) ?_ hk rfl rfl rfl (by decide)
 intro g L1 h1 FG F1 N1 B1 X1 T1 D1
 ctx_has g L1 h1
 refine cx_start (W:=W) (r:=28) (dp:=dp+1) (un:=un+3) (hh:=none) (names:=[("shelf",false),("before",false)]) (vals:=[some (mShelf T R),none]) (OkI.of (by kernel_rfl)) rfl rfl B1 X1 ⟨T1,λ p hp=>FG.keep _ _ (Tp.gr p hp)⟩ F1 N1 nd ao af ow trivial (by exact Nat.le_of_lt (by assumption)) (by lia) (λ c=>.some rfl hv1 (.none .nil)) λ c eA eE cE cg cL co cf cs' a0=>?_
 subst cg cL co cf cs'
 ctx_has c
 refine wpAny_execs_cons (wpAny_Assign_Name (WE.raw (c:=c) (K:=λ m v o=>m=toldShelf tab root k/\v=[some (mShelf T R),none]/\o=own) ?_ cE a0 ?_) rfl)
 · refine' WE.methF0 (f:=365) (x:=Str.ofString "told") ?_ (by kernel_rfl)
   k_all
   refine kMf0.inst mt_told ?_
   refine kCall.rd (shelf_told_ok W S hz hk0 hg) ⟨rfl,rfl,rfl⟩
 intro v2 mv s2 vals2 own2 hE2;refine E0_3 hE2 λ e2_0 e2_1 e=>?_;clear hE2;subst e2_0;subst e2_1;intro a2
 ctx_has v2 s2 own2
 rw [e] at a2
 clear e
 refine wpAny_mono (WX.store (c:=c) (K:=λ zz s'=>c.At s' [some (mShelf T R),some (toldShelf tab root k)] own [] []) rfl (.tail .head) a2 λ s' a'=>a') (λ zz s3 a3=>?_) λ zz zz h=>by rw [cE] at h;exact h.elim
 ctx_has s3
 refine wpAny_execs_cons (wpAny_Try_except ?_)
 refine wpAny_execs_cons (wpAny_Expr_any ?_ rfl rfl)
 refine Call_ ?_ rfl
 have hG:c.env.globals=mainGlobals:=cEnv_gl
 have K3:∃h3,s3.heap=h3/\∀b o,c.h₀.get? b=some o->h3.get? b=some o:=by
  refine Cx.AtI.el a3 λ h3 tk3 m3 cm3 ob3 cel3 frz3 S3 zz=>?_
  exact ⟨h3,rfl,S3.F.keep⟩
 refine E1_2 K3 λ h3 e3 keep3=>?_;clear K3
 ctx_has h3
 refine Name_function_global (env:=c.env) (cEnv_fk.trans a3.k.ok.fk) (cEnv_kind.trans (by kernel_rfl)) (loadGlobal_global (mg:=W.mg) (v:=.ref 581) (by rw [hG,e3];exact T1.g.keeps keep3) (mg_of X1 T1.g (gl_remove_page (W:=W)).1) ?_) (by decide+kernel)
 refine callWith_K X1 (gl_remove_page (W:=W)).2 (args_cons (name_raw (c:=c) (.head) rfl (λ p hp=>by
  rcases mem_cons.mp hp with rfl | hp
  · rfl
  · rw [mem_singleton.mp hp]) a3 (by decide+kernel) λ v a4=>args_cons (wpAny_Constant_int (args_nil ⟨a4.in,?_⟩)) rfl) rfl) rfl rfl
 ctx_has v
 refine Cx.AtI.el a4 λ h5 tk5 m5 cm5 ob5 cel5 frz5 S5 hv5=>?_
 ctx_has h5 tk5 m5 cm5 ob5 cel5 frz5
 have hvs:=hv5.hd
 have ec5:cel5=[]:=List.map_eq_nil_iff.mp (cells_addr S5.cc)
 subst ec5
 rw [←eA,← eE]
 refine wpAny_call (remove_raises W S O frz5 _ _ _ _ _ _ _ _ _ _ base _ _ _ _ _ ob5 c.old [v,.int 0 _] B1 S5.F X1 S5.N (by simpa using S5.nd) (λ p hp=>S5.ao p (by simpa using hp)) (λ p hp=>S5.af p (by trivial)) S5.ow (.cons hvs (.cons (.int _ _) .nil)) ⟨T1,λ p hp=>FG.keep _ _ (Tp.gr p hp)⟩ rfl (by show dp+1+20 < _;lia) (by show un+3+8 * 20 < _;lia) ?_)
 intro g2 h6 e t tk6 ob6 fz6 FG2 hR hsm nd6 ao6 hx6 af6 ow6
 ctx_has g2 h6 e t tk6 ob6 fz6
 refine caught_C hR FG2 B1 hsm XB TB.toTop (by kernel_rfl) (by kernel_rfl) λ h7 g3 oe ws T3 F3 N3 hw1 hw2 B3 X3 P3=>?_
 ctx_has h7 g3 oe ws
 have hne:∀q∈ob6++(c.old++fz6),q.1≠e:=by
  refine E1_4 hR λ B' hB hBG hl hfl=>?_;clear hR
  intro q hq z
  have:=(hl q hq).1
  rw [z,hfl.2.1] at this;f_shut this
 refine cx_start (W:=W) (r:=28) (dp:=dp+1) (un:=un+3) (hh:=some (.ref e)) (names:=[("shelf",false),("before",false)]) (vals:=[some (mShelf T R),some (toldShelf tab root k)]) (ob:=ob6) (kp:=(e,oe)::c.old) (fz:=fz6) (own:=own) (OkI.of (by kernel_rfl)) rfl rfl B3 X3 ⟨P3,λ p hp=>B3.stays _ _ (TB.gr p hp)⟩ F3 (λ p hp=>N3 p ?_) nd6 (λ p hp q hq=>?_) (λ p hp q hq=>?_) ow6 ⟨oe,ws,.head _,hw1,hw2⟩ (by exact Nat.le_of_lt (by assumption)) (by lia) (λ c3=>?_) λ c3 eA3 eE3 cE3 cg3 cL3 co3 cf3 cs3 a5=>?_
 ctx_has p
 · simp only [mem_append,mem_cons] at hp ⊢;rcases hp with q | (q | q) | q <;> simp [q]
 · rcases mem_cons.mp hq with rfl | hq
   · exact hne p (by k_flat)
   · exact ao6 p hp q hq
 · simp only [mem_append,mem_cons] at hp
   rcases hp with hp | rfl | hp
   · exact af6 p (by k_flat) q hq
   · exact Ne.symm (hne q (by k_flat))
   · exact af6 p (by k_flat) q hq
 ctx_has c3
 · have kn:=S5.kn
   have k3:=kn.tl.hd
   exact .cons (λ mv e=>E1_2 (kn.hd mv e) λ v a b=>⟨v,a,b.mono hx6⟩) (.cons (λ mv e=>E1_2 (k3 mv e) λ v a b=>⟨v,a,b.mono hx6⟩) .nil)
 ctx_has c3
 · subst cg3 cf3
   have mo:∀q∈c.old,q∈c3.old:=λ q hq=>by rw [co3];exact .tail _ hq
   refine WS.raw (K:=λ fv zz o=>fv = .rt (.bool true)/\o=own) ?_ cE3 a5 ?_
   · k_all
     refine' WE.methF0 (f:=365) (x:=Str.ofString "told") ?_ (by kernel_rfl)
     k_all
     refine kMf0.inst mt_told ?_
     refine kCall.rd (shelf_told_ok W S hz hk0 hg) ?_
     k_all
     refine kC2.eqT (told_flat λ p hp=>(hg p hp).1) ?_
     exact ⟨rfl,rfl⟩
   · rintro fl fv s' vals' own' ⟨rfl,e'⟩ ok
     ctx_has fl s' vals' own'
     rw [e'] at ok
     induction fl with
     | ret v' =>
      ctx_has v'
      refine Cx.AtI.el ok λ h8 tk8 m8 cm8 ob8 cel8 frz8 S8 hv8=>?_
      ctx_has h8 tk8 m8 cm8 ob8 cel8 frz8
      refine hv8.hd.boolE ?_
      have ec8:cel8=[]:=List.map_eq_nil_iff.mp (cells_addr S8.cc)
      subst ec8
      have nd8:=S8.nd
      have N8:News c3.h₀ c3.L h8 (ob8++(c.old++frz8)):=λ p hp=>S8.N p (by
       simp only [mem_append] at hp ⊢;rcases hp with q | q | q
       · simp [q]
       · simp [mo p q]
       · simp [q])
      refine leaveS0_ S8.F N8 T3 λ F' N'=>?_
      rw [cs3]
      exact ret (.bool true) (.bool true) own ob8 frz8 h8 tk8 ⟨rfl,rfl⟩ F' N' (by simpa using nd8) (λ p hp q hq=>S8.ao p (by simpa using hp) q (mo q hq)) (λ p hp=>S8.fx p (hx6 p (S5.fx p hp))) (λ p hp q hq=>S8.af p (by
       simp only [mem_append] at hp ⊢;rcases hp with q | q
       · simp [q]
       · simp [mo p q]) q hq) S8.ow (.bool _)
     | _=>exact ok.elim
theorem St.nil_of {tab:List (Int×Kvs)} {rc n0:Int} {kv0:Kvs} {ks:Fo} {K:Nat} (h:St tab rc n0 kv0 ks K) (hn:ks.nl=0):ks = .nil:=by
 induction ks with
 | nil=>rfl
 | page n kv r=>trivial
 | node n kv ks r =>
  have h1:=h.full.1
  simp only [Fo.nl_e] at hn
  lia
theorem St.tabl {tab:List (Int×Kvs)} {rc n0:Int} {kv0:Kvs} {ks:Fo} {K:Nat} (h:St tab rc n0 kv0 ks K):tab.length=K:=by
 have:=congrArg List.length h.keys
 rw [length_map] at this
 unfold keysTo at this
 simpa using this
noncomputable abbrev OwL (go lf:Addr) (gone:List (Nat×Kvs)) (rows:List (Int×List MV)) (R T:Addr) (rc:Int) (tab:List (Int×Kvs)) (P C:Addr) (ns:List Int) (i:Nat) (g:Int):Ow :=
 OwP [(go,.lst (gone.map goneMV)),(lf,.lst (rowsL rows)),(R,.dct (trlM (some rc))),(T,.ict (tabM tab))] P C ns i g []
theorem shfL {go lf:Addr} {gone:List (Nat×Kvs)} {rows:List (Int×List MV)} {R T:Addr} {rc:Int} {tab:List (Int×Kvs)} {P C:Addr} {ns:List Int} {i:Nat} {g:Int}:Shf (OwL go lf gone rows R T rc tab P C ns i g) T R tab (some rc):=⟨.tail _ (.tail _ (.tail _ (.head _))),.tail _ (.tail _ (.head _))⟩
theorem Cx.Kn.nones {W:Wd} {I:Info} {r:Nat} {c:Cx W I r} {m cm:Str->Option Value} {N:Lg}:∀ {ns:List (Str×Bool)},c.Kn m cm N ns (ns.map λ zz=>Option.none)
 | []=>.nil
 | _::_=>.none Cx.Kn.nones
theorem law_start {W:Wd} {cn:Str} {cs:Scope} {a:Addr} {ccd:Value} {x:Str} {ns:List (Str×Bool)} {L l:Addr} {base h:Heap} {m:Str->Option Value} {s:Shared} {tk:Nat} {Q:Flow->Shared->Prop} {E:Value->Shared->Prop} {body:List Stmt} (ok:OkI ⟨cn,cs,a,ccd,(x,false)::ns,false,none⟩)
 (B:Below callerA base [] base) (X:(KH W).In base) (T:TopV W base) (F:Fr base L h m) (N:News base L h []) (hm:m x=some (.ref l)) (hcl:∀n,cellsFrom n cs.names []=[])
 (hE:PassesOwn (model PG W.w) (callerA.deeper (envOf cn cs L a ccd)) (envOf cn cs L a ccd) E)
 (hw:∀c:Cx W ⟨cn,cs,a,ccd,(x,false)::ns,false,none⟩ 80,c.outer=[]->c.base=base->WS c body (λ fv zz zz=>fv = .rt (.bool true)) (some (.ptr l)::ns.map λ zz=>none) [])
 (fin:∀h' tk' m',Fr base L h' m'->Q (.ret (.bool true)) {s with heap:=h',toks:=tk'}):wpAny (model PG W.w) (callerA.deeper (envOf cn cs L a ccd)) (execs body (envOf cn cs L a ccd)) Q E {s with heap:=h,toks:=tk}:=by
 have eE:envOf cn cs L a ccd=fEnv ⟨cn,cs,a,ccd,(x,false)::ns,false,none⟩ L:=by
  show _=envX cn cs L a ccd (cellsFrom (L+1) cs.names [])
  rw [hcl];rfl
 let c:Cx W ⟨cn,cs,a,ccd,(x,false)::ns,false,none⟩ 80:=⟨(callerA.deeper (envOf cn cs L a ccd)).depth,(callerA.deeper (envOf cn cs L a ccd)).units,(callerA.deeper (envOf cn cs L a ccd)).guards,L,0,λ zz=>none,λ zz=>none,[],callerA,base,base,s,E,[],[],none⟩
 have eA:callerA.deeper (envOf cn cs L a ccd)=c.A:=by show _=Around.mk _ _ _ _ _;rw [←eE];rfl
 have eE2:envOf cn cs L a ccd=c.env:=eE
 rw [eA,eE2]
 refine hw c rfl rfl _ _ ⟨h,tk,m,λ zz=>none,[],[],[],⟨⟨B,X,T,ok,Nat.le_of_ble_eq_true rfl,Nat.le_of_ble_eq_true rfl,λ zz=>rfl,λ zz=>by rw [←eE];exact hE⟩,F,N,.nil,(λ zz h=>nomatch h),(λ zz zz zz h=>nomatch h),.nil,by show CellsAre _ (cellsFrom (L+1) cs.names []) _;rw [hcl];exact .nil,.some hm (.ptr _) Cx.Kn.nones,trivial,λ zz h=>h,λ q=>absurd rfl q⟩,.nil⟩ ?_
 rintro fl fv s' vals own rfl ok
 induction fl with
 | ret v =>
  refine Cx.AtI.el ok λ h' tk' m' cm' ob' cel' frz' S' hv'=>?_
  cases hv' with | cons h1 _ =>
  refine h1.boolE ?_
  exact fin h' tk' m' S'.F
 | _=>exact ok.elim
local macro_rules | `(tactic| k_qdec) => `(tactic| kernel_rfl)
set_option tactic.hygienic true in
theorem lawX:PySem.Challenge.rw_qz0082_01.Holds:=by
 apply Mine.hd
 w_strict (k_go0)
 rename World=>w
 rename IntsAre _ _=>hI
 rename Heap.IsList _ _ _=>hsl
 rename ¬ ((63:Nat):Int) < _=>hlen
 rename Frag.In _ _=>KX
 rename Below _ _ _ _=>B0
 rename Fr _ _ _ _=>F0
 rename News _ _ _ _=>N0
 rename Top _ _ _ _ _ _=>T0
 have hz:_<=63:=Nat.le_of_not_lt λ q=>hlen (by exact_mod_cast q)
 refine E1_2 hsl λ oS hS1 hS2=>?_;clear hsl
 rename_i s0 s1 mg mb G0 Y0 fa o0 pm0 doc0 kV0 ho0 hg0 X0 V0 GL0 Bt TE0 TW0 w9 w8 M0 w7 w6 hcd0 zs0 hs0 hl0 hL0 hr0 hl2 w4 w3 l us w0 ra0 w1 r0 hr1 hc0 hD0 h1
 have hT:=(⟨T0,λ p hp=>by rw [mem_singleton.mp hp];exact hS1⟩:TopV ⟨w,_,_,_,[(_,oS)]⟩ _)
 refine law_start (W:=⟨w,_,_,_,[(_,oS)]⟩) (x:=Str.ofString "script") (ns:=[("pen",false),("shelf",false),("left",false),("first",false),("gone",false),("at",false),("one",false),("number",false),("fields",false),("own",false)]) (OkI.of (by kernel_rfl)) B0 KX hT F0 N0 rfl (λ _=>rfl) (by with_unfolding_all passes_own) (λ c hou hb=>?_) (λ h' tk' m' F'=>?_)
 · show WS c (Stmt.Assign _ _ _::_) _ [some _,none,none,none,none,none,none,none,none,none,none] []
   have hX:(HP w.params).In c.base:=by rw [hb];exact KX
   have hb1:c.base=s1.heap:=hb
   have hT2:=hT;rw [←hb1] at hT2
   have hm:=ints_mall (w:=w) (N:=[]) hI
   have hls:∀h:Heap,h.get? l=some oS->h.IsList l us.toArray:=λ h e=>⟨oS,e,hS2⟩
   clear hT hS2 hS1 hb hb1 B0 F0 N0 hD0 hc0 hlen hr1 hI r0 w1 ra0 w0 w3 w4 hl2 hr0 hL0 hl0 hs0 hcd0 w6 M0 w8 w9 TW0 TE0 Bt T0 GL0 V0 X0 KX hg0 ho0 kV0 doc0 pm0 o0 Y0 G0
   revert c hou hX hT2 hz hm hls;ctx_has w s0 mg mb fa w7 zs0 l us oS
   ctx_has c
   k_all
   ktr_call gl_law_pen call
   refine kCall.use (pen_ok _ [] (.head _) hls hm hz) (h:=?_)
   intro m9 o9 hE1;refine EV3_1 m9 o9 hE1 λ P C ns hns=>?_;clear hE1 m9 o9
   k_all
   ktr_call gl_law_tree call
   refine kCall.e (tree_ok _ hns) (λ m hm=>by rw [mem_singleton.mp hm];exact .ptr _) (λ p hp=>?_) (h:=?_)
   · rcases mem_cons.mp hp with rfl | hp
     · exact ⟨_,rfl,λ m hm=>by simp only [mem_cons,not_mem_nil,or_false] at hm;rcases hm with rfl | rfl | rfl;exact .ptr _;exact .int _;exact .int _⟩
     · rw [mem_singleton.mp hp]
       exact ⟨_,rfl,λ m hm=>by refine E1_2 (mem_map.mp hm) λ z _ e2_2=>?_;subst e2_2;exact .int _⟩
   intro m9 o9 hE3;refine EV10_7 m9 o9 hE3 λ T R i0 g0 tab0 rc n0 kv0 ks0 K hi0 hg0 hTr hbox0 hnl0 hnl6 hK=>?_;clear hE3 m9 o9
   k_all
   ktr_call gl_law_seen call
   have S0:Shf (OwP [(R,.dct (trlM (some rc))),(T,.ict (tabM tab0))] P C ns i0 g0 []) T R tab0 (some rc):=⟨.tail _ (.head _),.head _⟩
   refine kCall.use (seen_own _ S0 hTr.toSt.spok (hd_of hTr.t) λ s hs=>(hf_of hTr.t s hs).1) (h:=?_)
   intro m9 o9 hE4;refine EV1_0 m9 o9 hE4 λ lf=>?_;clear hE4 m9 o9
   rw [rows_eq]
   have hrl:(flR n0 kv0 ks0).length=ks0.nl:=hTr.toSt.nl
   k_all
   refine WS.unpS (names:=[Str.ofString "first",Str.ofString "gone"]) ?_
   refine WE.tup ?_
   refine WA.cons ?_
   refine WE.compN ?_
   k_all
   refine kComp.own1 (λ i l o=>l=((flR n0 kv0 ks0).take i).map (λ r=>MV.lst r.2)/\o=OwP [(R,.dct (trlM (some rc))),(T,.ict (tabM tab0))] P C ns i0 g0 []) .nil ⟨rfl,rfl⟩ ?_ ?_ (by rw [length_map];lia)
   · intro c' i mv l o hi hQ1;refine EV0_0 hQ1 ?_;clear hQ1 l o
     refine map_at hi λ row hrow=>?_;clear hi mv
     k_all
     refine kSb2.itT (i:=1) rfl rfl (Nat.le_of_ble_eq_true rfl) ?_
     exact ⟨by rw [take_snoc' hrow];simp,rfl⟩
   intro l o hQ2;refine EV0_0 hQ2 ?_;clear hQ2 l o;intro ff
   rw [length_map,take_length]
   k_all
   refine WE.lst (WA.nil (kLst.mk λ go=>?_))
   k_all
   refine kUnp.t rfl (.cons (by ktn_open) (.cons (by ktn_open) .nil)) ?_
   obtain ⟨first,hfirst⟩:∃f,f=(flR n0 kv0 ks0).map (·.2):=⟨_,rfl⟩
   rw [show (flR n0 kv0 ks0).map (λ r=>MV.lst r.2)=first.map MV.lst by rw [hfirst,map_map];rfl]
   refine WS.frz (.tail .head) .lst (by kpc_g) ?_
   obtain ⟨P0,hP0⟩:∃P0,P0=ks0.nl:=⟨_,rfl⟩
   have hG0:GoneOk kv0 first (flR n0 kv0 ks0) [] P0:=⟨λ _ h=>(nomatch h),by rw [hrl,hP0];simp,(λ _ _ h=>by f_shut h),hfirst.symm⟩
   refine WS.while (n₀:=P0) (λ n v o=>∃x6 x7 x8 x9 x10 i g tab kv0 ks gone,v=[some (.ptr _),some (.ptr P),some (mShelf T R),some (.ptr lf),some (.lst (first.map .lst)),some (.ptr go),x6,x7,x8,x9,x10]/\o=OwL go lf gone (flR n0 kv0 ks) R T rc tab P C ns i g/\i<=300+gone.length/\0<=g/\St tab rc n0 kv0 ks K/\mGetD kv0 kMedia≠.none/\ks.nl=n/\GoneOk kv0 first (flR n0 kv0 ks) gone P0)
    (IV11_6 rfl rfl hi0 hg0 hTr.toSt hbox0 hP0.symm hG0) ?_
   have hP6:P0<=6:=by simp+arith [*]
   clear hG0 hP0 hfirst hTr hbox0 hnl0 hnl6 hrl S0 hi0 hg0
   intro n v o hE6;refine EV11_6 v o hE6 λ x6 x7 x8 x9 x10 i g tab kvi ks gone hi hg hSt hbox hnl hGi=>?_;clear hE6 v o
   have hrl:=hSt.nl
   have htl:=hSt.tabl
   have hgl:gone.length+ks.nl=P0:=by rw [←hrl];exact hGi.len
   k_all
   refine WE.frz (WE.lst (WA.nil (kLst.mk λ _=>kFrz.lst .head ?_)))
   induction n with
   | zero =>
    obtain rfl:=hSt.nil_of hnl
    refine kC2.neNilL (b:=false) (.o (.tail _ (.head _))) rfl ?_
    k_all
    ktr_call gl_page_count call
    refine kCall.rd (page_count_ok _ shfL hSt.spok (i:=0) (by decide) hSt.count) ?_
    k_all
    refine kC2.ne (d:=false) rfl ?_
    k_all
    ktr_call gl_law_refused call
    refine kCall.o hou hX hT2 (refused_ok _ shfL (r0:=⟨n0,kvi,[],givenF [] kvi,false⟩) hSt.spok (k:=K) (by exact Nat.lt_of_le_of_lt (by assumption) (by decide)) hSt.keys (λ p hp=>⟨(hSt.gt p hp).flat,Nat.le_trans (hSt.gt p hp).len (by decide)⟩)) (h:=?_)
    intro m9 o9 hQ3;refine EV0_0 hQ3 ?_;clear hQ3 m9 o9
    have hg6:gone.length<=6:=by simp only [Fo.nl_e] at hgl;lia
    k_all
    refine WS.forP ?_
    refine WE.frz ?_
    refine WE.subRev ?_
    k_all
    refine kRevS.mk (.o (.head _)) (by rw [length_map];exact Nat.le_trans (by assumption) (by decide)) λ a=>kFrz.lst .head ?_
    rw [←List.map_reverse,show gone.reverse.map goneMV=(gone.reverse.map λ g=>(MV.int (g.1:Nat),MV.dct g.2)).map λ p=>MV.tup [p.1,p.2] by rw [map_map];rfl]
    refine kForP.lst (λ j v o=>∃y6 y10 tab kv0 LF,v=[some (.ptr _),some (.ptr P),some (mShelf T R),some (.ptr lf),some (.lst (first.map .lst)),some (.ptr go),y6,x7,x8,x9,y10]/\o=OwL go lf gone [] R T rc tab P C ns i g/\St tab rc n0 kv0 (Fo.flat LF) (K+j)/\mGetD kv0 kMedia≠.none/\(∀k∈INHS,mGetD kv0 k=mGetD kvi k)/\LF.length=j/\(flR n0 kv0 (Fo.flat LF)).map (·.2)=(gone.reverse.take j).foldl insG [])
     ⟨_,_,tab,kvi,[],rfl,rfl,hSt,hbox,λ _ _=>rfl,rfl,rfl⟩ ?_ ?_
    · intro c' j p v o hp hE7;refine EV5_5 v o hE7 λ y6 y10 tabx kvx LF hStx hbx hinx hLl hrw=>?_;clear hE7 v o
      refine map_at hp λ g1 hg1=>?_;clear hp p
      refine (hGi.at rfl hg1).elim λ hgi hgin=>?_
      have hOw:=(hGi.own g1 hgin).up hinx
      refine E1_3 (flat_of hStx) λ lv hlv1 hlv2 hFl=>?_
      have hj6:j < 6:=by have:=(List.getElem?_eq_some_iff.mp hg1).1;rw [length_reverse] at this;lia
      have htl2:=hStx.tabl
      refine E0_5 (hStx.insert hOw (i:=g1.1) (by simp+arith [*]) (by lia) rfl rfl rfl) λ w1 w2 w3 w4 hw=>E3_4 hw λ tabF kvF LF2 w5 hStF w6 w7=>?_;clear hw
      have hSpA:SpOk tabx (some rc) n0 (⟨n0,kvx,[],givenF [] kvx,false⟩::lv):=by rw [←hlv1];exact hStx.spok
      have hSpB:SpOk (tabx++[(((K+j:Nat):Int)+1,pgH g1.2)]) (some rc) n0 (⟨n0,kvx,[],givenF [] kvx,false⟩::lv):=by rw [←hlv1];exact w1
      have hkt:∀k∈LF.map (·.1),∃kv,tGet tabx k=some kv:=λ k hk=>tGet_has (Fo.T_keys hStx.t k (by
       show k∈n0::((Fo.flat LF).nums++[])
       rw [append_nil,Fo.flat_nums];exact .tail _ hk))
      refine ⟨_,_,by ktn_open,by ktn_open,?_⟩
      k_all
      ktr_call gl_insert_page call
      refine kCall.md (insert_page_ok _ (pre:=[(go,.lst (gone.map goneMV)),(lf,.lst (rowsL [])),(R,.dct (trlM (some rc)))]) (post:=OwP [] P C ns i g []) shfL (by lia) hSpA hFl hkt hStx.keys hOw.gk.flat (Nat.le_trans hOw.gk.len (by decide)) hOw.gk.nd (by simp+arith [*]) rfl hSpB w2 (by exact Nat.le_trans hStx.t.2.1.len (by decide)) w3 (hab_of _) w4 w5) ?_
      have hLl2:LF2.length=j+1:=by
       have a:=hStF.nl
       have b:=hStx.nl
       rw [w7,Fo.flat_nl] at a
       rw [Fo.flat_nl] at b
       simp only [length_append,length_take,List.length_drop,length_cons,length_nil] at a
       lia
      have hrw2:(flR n0 kvF (Fo.flat LF2)).map (·.2)=(gone.reverse.take (j+1)).foldl insG []:=by
       rw [w7,ins_map,hrw,take_snoc' hg1,List.foldl_append];rfl
      k_all
      exact kP.nx ⟨_,_,tabF,kvF,LF2,rfl,rfl,hStF,by rw [w6 kMedia (by decide+kernel)];exact hbx,λ k hk=>(w6 k hk).trans (hinx k hk),hLl2,hrw2⟩
    · intro v o hE11;refine EV5_5 v o hE11 λ y6 y10 tabx kvx LF hStx hbx hinx hLl hrw=>?_;clear hE11 v o
      rw [length_map,length_reverse] at hLl hrw
      have hfull:(flR n0 kvx (Fo.flat LF)).map (·.2)=first:=by
       rw [hrw,← length_reverse,take_length]
       exact hGi.back
      have hrl9:(flR n0 kvx (Fo.flat LF)).length=LF.length:=by rw [hStx.nl,Fo.flat_nl]
      k_all
      ktr_call gl_law_seen call
      refine kCall.rd (seen_ok _ shfL hStx.spok (hd_of hStx.t) λ s hs=>(hf_of hStx.t s hs).1) ?_
      rw [rows_eq]
      refine kComp.lst (src:=rowsL (flR n0 kvx (Fo.flat LF))) (λ j l o=>l=((flR n0 kvx (Fo.flat LF)).take j).map (λ r=>MV.lst r.2)/\o=OwL go lf gone [] R T rc tabx P C ns i g) .nil ⟨rfl,rfl⟩ ?_ ?_ (by rw [length_map];lia)
      · intro c' j mv l o hi9 hQ4;refine EV0_0 hQ4 ?_;clear hQ4 l o
        refine map_at hi9 λ row hrow=>?_;clear hi9 mv
        k_all
        refine kSb2.itT (i:=1) rfl rfl (Nat.le_of_ble_eq_true rfl) ?_
        exact ⟨by rw [take_snoc' hrow];simp,rfl⟩
      intro l o hQ5;refine EV0_0 hQ5 ?_;clear hQ5 l o;intro fl
      rw [length_map,take_length,show (flR n0 kvx (Fo.flat LF)).map (λ r=>MV.lst r.2)=first.map MV.lst by rw [←hfull,map_map];rfl]
      k_all
      refine kC2.eqL (.o (.head _)) .t (lists_flat (ls:=first) (by
       rw [←hfull];intro r hr
       refine E1_2 (mem_map.mp hr) λ q hq e13_2=>?_;subst e13_2
       exact Fo.fl_flat _ _ hStx.t InhOk.nil q hq)) ?_
      k_all
      ktr_call gl_page_faults call
      refine kCall.rd (page_faults_ok _ shfL.c hStx.spok (hab_of _) (hStx.good hbx)) ?_
      k_all
      refine WE.frz (WE.lst (WA.nil (kLst.mk λ _=>kFrz.lst .head ?_)))
      refine kC2.eqNilL (b:=true) .t rfl ?_
      rfl
   | succ n1 =>
    have hg6:gone.length<=6:=by lia
    have hl6:(flR n0 kvi ks).length<=6:=by lia
    have hrn:(rowsL (flR n0 kvi ks)).length=ks.nl:=by rw [length_map,hrl]
    refine kC2.neNilL (b:=true) (.o (.tail _ (.head _))) (by cases hq:rowsL (flR n0 kvi ks) with | nil=>rw [hq] at hrn;simp at hrn;lia | cons=>rfl) ?_
    k_all
    ktr_call gl_law_draw call
    refine WE.bi1 ?_ cls_len (by kernel_rfl) (by decide+kernel)
    k_all
    refine kF1.lenL (.o (.tail _ (.head _))) (by lia) ?_
    k_all
    refine kCall.use (draw_ok (pre:=[(go,.lst (gone.map goneMV)),(lf,.lst (rowsL (flR n0 kvi ks))),(R,.dct (trlM (some rc))),(T,.ict (tabM tab))]) _ hns (by lia) hg (by simp+arith [*]) (by lia)) (h:=?_)
    intro m9 o9 hE14;refine EV3_3 m9 o9 hE14 λ i1 g1 d1 hi1 hg1 hd1=>?_;clear hE14 m9 o9
    refine E2_5 (hSt.at (i:=d1) (by lia)) λ dd sp s1 s2 s3 s4 s5=>?_
    k_all
    ktr_call gl_page_at call
    refine kCall.rd (page_at_ok _ shfL (by lia) hSt.spok (i:=(ks.nl:Int)) (by exact Int.natCast_nonneg _) hSt.count (at':=(d1:Int)) (by exact Int.natCast_nonneg _) (by lia) s4) ?_
    k_all
    refine kSb2.itL (i:=d1) (.o (.tail _ (.head _))) rfl (by rw [getElem?_map,s5];rfl) (by lia) ?_
    k_all
    refine kSb2.itT (i:=0) rfl rfl (Nat.le_of_ble_eq_true rfl) ?_
    refine kC2.ne (d:=false) (by simp) ?_
    k_all
    ktr_call gl_remove_page call
    refine E6_9 (hSt.remove s2 s3) λ tab1 kv1 ks1 tabF kvF ksF u1 u2 u3 u4 hStF u6 u7 u8 _=>?_
    have hal:sp.above.length<=60:=by
     refine E1_3 (Fo.sp_above _ [] [] sp s2) λ q e1 _ e3=>?_
     have:=hSt.len
     rw [e1,List.nil_append];lia
    refine (hSt.own s2 s3).elim λ o1 o2=>?_
    have e7:flR n0 kvF ksF=(flR n0 kvi ks).eraseIdx d1:=u7.trans (filter_erase hSt.rows s5)
    have e8:(rowsL (flR n0 kvi ks)).eraseIdx d1=rowsL (flR n0 kvF ksF):=by rw [e7];exact (erase_map _ _ _).symm
    have hboxF:mGetD kvF kMedia≠.none:=by rw [u6 kMedia (by decide+kernel)];exact hbox
    refine kCall.md (remove_page_ok _ (pre:=[(go,.lst (gone.map goneMV)),(lf,.lst (rowsL (flR n0 kvi ks))),(R,.dct (trlM (some rc)))]) (post:=OwP [] P C ns i1 g1 []) shfL (by lia) hSt.spok (hab_of _) (hd_of hSt.t) s1 hal u1 u2 (hab_of _) u3 u4) ?_
    refine kAsg.mk (by ktn_open) ?_
    refine WS.unp2 ?_
    refine WE.methB (x:=Str.ofString "pop") (id:="list.pop") ?_
    refine WE.name (by ktr_rel) ?_
    refine kMb.popL (.o (.tail _ (.head _))) ?_
    k_all
    refine ON.popAt (own':=OwL go lf gone (flR n0 kvF ksF) R T rc tabF P C ns i1 g1) (i:=d1) (by rw [e8];exact .tail .head) (by rw [getElem?_map,s5];rfl) rfl (by lia) ?_
    refine kUnp.two (by ktn_open) (by ktn_open) ?_
    k_all
    generalize hown:turnedF (fieldsF sp.kvs sp.inh) [(kParent,MV.none)]=own at u8 o1 o2
    refine kCall.rd (fetch_ref _ shfL u8) ?_
    k_all
    refine kC2.ne (d:=false) (by simp) ?_
    k_all
    ktr_call gl_law_fields call
    refine kCall.rd (fields_ok _ _ o1.gk.flat) ?_
    k_all
    rw [←o2]
    refine kC2.neL .t .t (fldsOf_flat o1.gk) ?_
    k_all
    refine kC2.inS (b:=false) .t (by rw [show mGet own (Str.ofString "Parent")=none from o1.par];rfl) ?_
    k_all
    ktr_call gl_law_seen call
    refine kCall.rd (seen_ok _ shfL hStF.spok (hd_of hStF.t) λ s hs=>(hf_of hStF.t s hs).1) ?_
    rw [rows_eq]
    k_all
    refine kC2.neL (l:=rowsL (flR n0 kvF ksF)) .t (.o (.tail _ (.head _))) (rows_flat (Fo.fl_flat _ _ hStF.t InhOk.nil)) ?_
    k_all
    ktr_call gl_page_faults call
    refine kCall.rd (page_faults_ok _ shfL hStF.spok (hab_of _) (hStF.good hboxF)) ?_
    k_all
    refine WE.frz (WE.lst (WA.nil (kLst.mk λ _=>kFrz.lst .head ?_)))
    refine kC2.neNilL (b:=false) .t rfl ?_
    k_all
    ktr_call gl_law_is_full call
    refine E1_2 (hStF.cat) λ ckv ck1 ck2=>?_
    have hkk:mGet kvF (Str.ofString "Kids")=some (mRefs ksF.tops):=by
     have h4:=hStF.t.2.2.2.1
     rw [←h4]
     exact mGetD_some (by rw [h4];intro q;f_shut q)
    have hfl:ksF.nums.length<=60:=by
     have:=hStF.len
     simp only [Fo.nums_e,append_nil,length_cons] at this;lia
    refine kCall.rd (is_full_ok _ shfL ck1 ck2 hStF.t.1 hkk hStF.frun hfl) ?_
    k_all
    refine kMb.append (.o (.head _)) ?_
    k_all
    refine ON.append .head (by rw [length_map];exact Nat.le_trans (by assumption) (by decide)) ?_
    k_all
    have hnl1:ksF.nl=n1:=by
     have a:=hStF.nl
     rw [e7,List.length_eraseIdx] at a
     split at a <;> lia
    exact kWT.nx (k:=n1) (Nat.lt_succ_self n1) ⟨_,_,_,_,_,i1,g1,tabF,kvF,ksF,gone++[(d1,own)],rfl,by show _=OwP [(go,.lst ((gone++[(d1,own)]).map goneMV)),_,_,_] P C ns i1 g1 [];rw [map_append];rfl,by rw [length_append,length_cons,length_nil];lia,hg1,hStF,hboxF,hnl1,by rw [e7];exact hGi.step s5 (o1.up u6) o2 u6⟩
 · k_steps
end Mine
theorem PySem.Challenge.cw_qz0082_01_holds : PySem.Challenge.rw_qz0082_01.Holds := by
  exact Mine.lawX
