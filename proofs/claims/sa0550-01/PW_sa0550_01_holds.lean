import PyProof.Rows.All
import Wide.All
import OpenK.AllK
import Wide.FinOn
import Lean
import PySem.Challenge.RW_sa0550_01
open PySem PySem.W PyProof.Rows
set_option Elab.async false
open _root_.List renaming length→aa,flatten→ae,getD→ay,length_append→bD,getElem?_eq_getElem→bP,mem_cons→bR,mem_append_left→bU,mem_append→bV,mem_append_right→cu,nodup_append→cC,prefix_refl→cN,append_assoc→cS,mem_map→cZ,prefix_append→c9,length_cons→df,length_map→dq,mem_of_getElem?→dH,mem_singleton→dI,drop→dJ,map→dK,getElem?_eq_some_iff→dP,getD_eq_getElem?_getD→dX,map_append→eJ,take→eK,map_cons→eW,getElem?_map→fy,length_nil→fM,flatten_cons→f6,mem_map_of_mem→gN,lookup_cons→gO,length_drop→gQ,casesOn→gS,getElem?_append_left→ib,getElem?_of_mem→iE,length_take→iF,all_eq_true→i8,all_cons→jI,getElem?_append_right→kl,mem_of_mem_drop→kn,nodup_cons→ku,mem_of_mem_take→lM,getElem?_eq_none→m5,any_eq_true→m8,getElem_mem→m_,getElem?_set_self→oR,drop_eq_nil_of_le→oS,getElem?_drop→oW,flatten_nil→o5,length_set→o6,length_singleton→ri
open _root_.PySem renaming Str→ab,model→ag,Addr→ak,Shared→aw,Value→az,wpAny_bind→aB,wpAny→aC,World→aQ,eval→aZ,Heap→bS,wpAny_pure→bW,Stmt→cD,Around→dj,execs→dM,wpAny_mono→el,rawInt→er,Scope→et,notedBy→eA,wpAny_of_eq→eO,isTrue→fh,Params→fm,starEach→fO,intItems→fQ,holding→fR,wpAny_holding→f9,sizeLine_eq→gT,mainGlobals→ie,wpAny_field→ig,cameBackBy→i_,noteFrame→jb,compareOp→jo,wpAny_loadPart_at→jC,wpAny_truthy_bool→jE,builtinLookup_eq_fast→km,checkBuiltinCall→ko,typeLookup_type→kz,wpAny_specialOf→nf,wpAny_theTreesLotGoes→oU,wpAny_isSubtype_exc→oV,wpAny_newObj_type→oX,wpAny_isNot_plain→oY,wpAny_storeName_local→rh
open _root_.Int renaming toNat→au,natCast_nonneg→eV,add_zero→gf,le_refl→gg,negSucc→gy,ofNat_lt→kA,ofNat_le→kB,add_assoc→lO,natCast_zero→oZ
open _root_.False renaming elim→aF
open _root_.Nat renaming beq→aO,le_refl→ba,eq_of_beq_eq_true→dc,blt→dT,ne_of_lt→fj,le_trans→fk,le_of_lt→f_,blt_eq→gh,le_of_ble_eq_true→gM,lt_irrefl→gR,lt_succ_self→ic,not_lt→ij,lt_of_lt_of_le→i7,beq_refl→jl,lt_succ_of_lt→jD,le_of_not_lt→jF,min_le_right→jG,not_lt_zero→jH,le_add_right→kr,min_eq_left→o7
open _root_.Bool renaming and_eq_true_iff→bE,eq_false_iff→lN,true→W8,false→W9
open _root_.Option renaming bind_eq_some_iff→bO,map_eq_some_iff→ez,isSome_iff_exists→uP,some→W6,none→W7
open _root_.Option.some renaming inj→bQ
open _root_.Eq renaming mp→cb
open _root_.Or renaming elim→c_
open _root_.PySem.Value renaming ref→di,none→ja
open _root_.PySem.Heap renaming get?_push_of_some→dt,lt_size→ed,get?_push_size→fx,size_push→iG,get?_update_other→mY,get?_update_self→mZ
open _root_.PySem.W renaming tabObj→eM,findIn→eX,emptyDict→fN,hideAll_get→jm,boot_heap→jn
open _root_.PySem.PyData renaming keyHash→f7
open _root_.And renaming intro→ik
open _root_.PySem.Obj renaming mapFields→i9,putName→kC,mapBytearray→m9
open _root_.UInt8 renaming ofNat→jJ
open _root_.PySem.Str renaming ofString→m7
open _root_.Nat.succ renaming inj→ng
open _root_.PySem.Builtin renaming divisionGoesByPylong→rf
open _root_.PySem.F renaming excBase_Exception→rg
open _root_.Array renaming getElem?_eq_some_iff→uO
open _root_.PySem.Builtin.Bytes renaming exportsOf→uQ,buffer?→uS
open _root_.PySem.Stmt.FunctionDef renaming elim→uR
open _root_.PySem.Builtin.ObjectAttr renaming storeInOwnDict→Cy
open _root_.Decidable renaming decide→W_
set_option linter.all false
set_option maxRecDepth 100000
set_option genSizeOf false
set_option compiler.extract_closed false
set_option genInjectivity false
namespace Mine.Lake
section
open PySem.Calls
theorem bF{P Q o:Prop}(f:P->Q->o)(h:P/\Q):o:=f h.1 h.2
theorem aI{P Q o:Prop}(h:P/\Q)(f:P->Q->o):o:=bF f h
theorem du{P Q R o:Prop}(f:P->Q->R->o)(h:P/\Q/\R):o:=f h.1 h.2.1 h.2.2
theorem cE{P Q R o:Prop}(h:P/\Q/\R)(f:P->Q->R->o):o:=du f h
theorem fq{P Q R S o:Prop}(f:P->Q->R->S->o)(h:P/\Q/\R/\S):o:=f h.1 h.2.1 h.2.2.1 h.2.2.2
theorem iH{P Q R S o:Prop}(h:P/\Q/\R/\S)(f:P->Q->R->S->o):o:=fq f h
theorem uT{P Q R S T o:Prop}(f:P->Q->R->S->T->o)(h:P/\Q/\R/\S/\T):o:=f h.1 h.2.1 h.2.2.1 h.2.2.2.1 h.2.2.2.2
theorem o8{P Q R S T o:Prop}(h:P/\Q/\R/\S/\T)(f:P->Q->R->S->T->o):o:=uT f h
theorem uU{P Q R S T U o:Prop}(f:P->Q->R->S->T->U->o)(h:P/\Q/\R/\S/\T/\U):o:=f h.1 h.2.1 h.2.2.1 h.2.2.2.1 h.2.2.2.2.1 h.2.2.2.2.2
theorem Cz{P Q R S T U V W o:Prop}(f:P->Q->R->S->T->U->V->W->o)(h:P/\Q/\R/\S/\T/\U/\V/\W):o:=f h.1 h.2.1 h.2.2.1 h.2.2.2.1 h.2.2.2.2.1 h.2.2.2.2.2.1 h.2.2.2.2.2.2.1 h.2.2.2.2.2.2.2
theorem uV{A:Sort _}{P Q R S o:Prop}{T U:A->Prop}(f:P->Q->R->S->∀a,T a->U a->o)(h:P/\Q/\R/\S/\∃a,T a/\U a):o:=h.2.2.2.2.elim λ a x=>f h.1 h.2.1 h.2.2.1 h.2.2.2.1 a x.1 x.2
theorem CA{A:Sort _}{P Q R o:Prop}{S T:A->Prop}(f:P->Q->R->∀a,S a->T a->o)(h:P/\Q/\R/\∃a,S a/\T a):o:=h.2.2.2.elim λ a x=>f h.1 h.2.1 h.2.2.1 a x.1 x.2
theorem uW{A B:Sort _}{P Q o:Prop}{R S T U V W X:A->Prop}{Y Z O N M:A->B->Prop}(f:P->Q->∀a,R a->S a->T a->U a->V a->W a->X a->∀b,Y a b->Z a b->O a b->N a b->M a b->o)(h:P/\Q/\∃a,R a/\S a/\T a/\U a/\V a/\W a/\X a/\∃b,Y a b/\Z a b/\O a b/\N a b/\M a b):o:=h.2.2.elim λ a x=>x.2.2.2.2.2.2.2.elim λ b y=>f h.1 h.2.1 a x.1 x.2.1 x.2.2.1 x.2.2.2.1 x.2.2.2.2.1 x.2.2.2.2.2.1 x.2.2.2.2.2.2.1 b y.1 y.2.1 y.2.2.1 y.2.2.2.1 y.2.2.2.2
theorem nh{A:Sort _}{P o:Prop}{Q:A->Prop}(f:P->∀a,Q a->o)(h:P/\∃a,Q a):o:=h.2.elim λ a x=>f h.1 a x
theorem rj{A:Sort _}{P o:Prop}{Q:A->Prop}(h:P/\∃a,Q a)(f:P->∀a,Q a->o):o:=nh f h
theorem jK{A:Sort _}{P o:Prop}{Q R:A->Prop}(f:P->∀a,Q a->R a->o)(h:P/\∃a,Q a/\R a):o:=h.2.elim λ a x=>f h.1 a x.1 x.2
theorem ni{A:Sort _}{P o:Prop}{Q R:A->Prop}(h:P/\∃a,Q a/\R a)(f:P->∀a,Q a->R a->o):o:=jK f h
theorem rk{A:Sort _}{P o:Prop}{Q R S:A->Prop}(f:P->∀a,Q a->R a->S a->o)(h:P/\∃a,Q a/\R a/\S a):o:=h.2.elim λ a x=>f h.1 a x.1 x.2.1 x.2.2
theorem rl{A:Sort _}{P o:Prop}{Q R S:A->Prop}(h:P/\∃a,Q a/\R a/\S a)(f:P->∀a,Q a->R a->S a->o):o:=rk f h
theorem uX{A B:Sort _}{P o:Prop}{Q R:A->B->Prop}(f:P->∀a b,Q a b->R a b->o)(h:P/\∃a b,Q a b/\R a b):o:=h.2.elim λ a x=>x.elim λ b x=>f h.1 a b x.1 x.2
theorem dw{A:Sort _}{P:A->Prop}{o:Prop}(f:∀a,P a->o)(h:∃a,P a):o:=h.elim λ a h=>f a h
theorem cv{A:Sort _}{P:A->Prop}{o:Prop}(h:∃a,P a)(f:∀a,P a->o):o:=dw f h
theorem b7{A:Sort _}{P Q:A->Prop}{o:Prop}(f:∀a,P a->Q a->o)(h:∃a,P a/\Q a):o:=h.elim λ a h=>f a h.1 h.2
theorem aj{A:Sort _}{P Q:A->Prop}{o:Prop}(h:∃a,P a/\Q a)(f:∀a,P a->Q a->o):o:=b7 f h
theorem o9{A:Sort _}{P Q R:A->Prop}{o:Prop}(f:∀a,P a->Q a->R a->o)(h:∃a,P a/\Q a/\R a):o:=h.elim λ a h=>f a h.1 h.2.1 h.2.2
theorem cO{A:Sort _}{P Q R:A->Prop}{o:Prop}(h:∃a,P a/\Q a/\R a)(f:∀a,P a->Q a->R a->o):o:=o9 f h
theorem uY{A:Sort _}{P Q R S:A->Prop}{o:Prop}(f:∀a,P a->Q a->R a->S a->o)(h:∃a,P a/\Q a/\R a/\S a):o:=h.elim λ a h=>f a h.1 h.2.1 h.2.2.1 h.2.2.2
theorem rm{A:Sort _}{P Q R S:A->Prop}{o:Prop}(h:∃a,P a/\Q a/\R a/\S a)(f:∀a,P a->Q a->R a->S a->o):o:=uY f h
theorem ro{A:Sort _}{P Q R S T:A->Prop}{o:Prop}(f:∀a,P a->Q a->R a->S a->T a->o)(h:∃a,P a/\Q a/\R a/\S a/\T a):o:=h.elim λ a h=>f a h.1 h.2.1 h.2.2.1 h.2.2.2.1 h.2.2.2.2
theorem uZ{A:Sort _}{P Q R S T:A->Prop}{o:Prop}(h:∃a,P a/\Q a/\R a/\S a/\T a)(f:∀a,P a->Q a->R a->S a->T a->o):o:=ro f h
theorem jq{A B:Sort _}{P:A->B->Prop}{o:Prop}(f:∀a b,P a b->o)(h:∃a b,P a b):o:=h.elim λ a h=>h.elim λ b h=>f a b h
theorem lP{A B:Sort _}{P:A->B->Prop}{o:Prop}(h:∃a b,P a b)(f:∀a b,P a b->o):o:=jq f h
theorem c7{A B:Sort _}{P Q:A->B->Prop}{o:Prop}(f:∀a b,P a b->Q a b->o)(h:∃a b,P a b/\Q a b):o:=h.elim λ a h=>h.elim λ b h=>f a b h.1 h.2
theorem cY{A B:Sort _}{P Q:A->B->Prop}{o:Prop}(h:∃a b,P a b/\Q a b)(f:∀a b,P a b->Q a b->o):o:=c7 f h
theorem lQ{A B:Sort _}{P Q R:A->B->Prop}{o:Prop}(f:∀a b,P a b->Q a b->R a b->o)(h:∃a b,P a b/\Q a b/\R a b):o:=h.elim λ a h=>h.elim λ b h=>f a b h.1 h.2.1 h.2.2
theorem dY{A B:Sort _}{P Q R:A->B->Prop}{o:Prop}(h:∃a b,P a b/\Q a b/\R a b)(f:∀a b,P a b->Q a b->R a b->o):o:=lQ f h
theorem CB{A B:Sort _}{P Q R S:A->B->Prop}{o:Prop}(h:∃a b,P a b/\Q a b/\R a b/\S a b)(f:∀a b,P a b->Q a b->R a b->S a b->o):o:=h.elim λ a h=>h.elim λ b h=>f a b h.1 h.2.1 h.2.2.1 h.2.2.2
theorem u0{A B:Sort _}{P Q R S T:A->B->Prop}{o:Prop}(f:∀a b,P a b->Q a b->R a b->S a b->T a b->o)(h:∃a b,P a b/\Q a b/\R a b/\S a b/\T a b):o:=h.elim λ a h=>h.elim λ b h=>f a b h.1 h.2.1 h.2.2.1 h.2.2.2.1 h.2.2.2.2
theorem il{A B:Sort _}{P Q R S T:A->B->Prop}{o:Prop}(h:∃a b,P a b/\Q a b/\R a b/\S a b/\T a b)(f:∀a b,P a b->Q a b->R a b->S a b->T a b->o):o:=u0 f h
theorem u6{A B:Sort _}{P Q R S T U:A->B->Prop}{o:Prop}(f:∀a b,P a b->Q a b->R a b->S a b->T a b->U a b->o)(h:∃a b,P a b/\Q a b/\R a b/\S a b/\T a b/\U a b):o:=h.elim λ a h=>h.elim λ b h=>f a b h.1 h.2.1 h.2.2.1 h.2.2.2.1 h.2.2.2.2.1 h.2.2.2.2.2
theorem u7{A B:Sort _}{P Q R S T U:A->B->Prop}{o:Prop}(h:∃a b,P a b/\Q a b/\R a b/\S a b/\T a b/\U a b)(f:∀a b,P a b->Q a b->R a b->S a b->T a b->U a b->o):o:=u6 f h
theorem dk{A B C:Sort _}{P:A->B->C->Prop}{o:Prop}(f:∀a b c,P a b c->o)(h:∃a b c,P a b c):o:=h.elim λ a h=>h.elim λ b h=>h.elim λ c h=>f a b c h
theorem nj{A B C:Sort _}{P:A->B->C->Prop}{o:Prop}(h:∃a b c,P a b c)(f:∀a b c,P a b c->o):o:=dk f h
theorem jL{A B C:Sort _}{P Q:A->B->C->Prop}{o:Prop}(h:∃a b c,P a b c/\Q a b c)(f:∀a b c,P a b c->Q a b c->o):o:=h.elim λ a h=>h.elim λ b h=>h.elim λ c h=>f a b c h.1 h.2
theorem gi{A B C:Sort _}{P Q R:A->B->C->Prop}{o:Prop}(f:∀a b c,P a b c->Q a b c->R a b c->o)(h:∃a b c,P a b c/\Q a b c/\R a b c):o:=h.elim λ a h=>h.elim λ b h=>h.elim λ c h=>f a b c h.1 h.2.1 h.2.2
theorem kD{A B C:Sort _}{P Q R:A->B->C->Prop}{o:Prop}(h:∃a b c,P a b c/\Q a b c/\R a b c)(f:∀a b c,P a b c->Q a b c->R a b c->o):o:=gi f h
theorem gU{A B C:Sort _}{P Q R S:A->B->C->Prop}{o:Prop}(f:∀a b c,P a b c->Q a b c->R a b c->S a b c->o)(h:∃a b c,P a b c/\Q a b c/\R a b c/\S a b c):o:=h.elim λ a h=>h.elim λ b h=>h.elim λ c h=>f a b c h.1 h.2.1 h.2.2.1 h.2.2.2
theorem lR{A B C:Sort _}{P Q R S:A->B->C->Prop}{o:Prop}(h:∃a b c,P a b c/\Q a b c/\R a b c/\S a b c)(f:∀a b c,P a b c->Q a b c->R a b c->S a b c->o):o:=gU f h
theorem kE{A B C:Sort _}{P Q R S T:A->B->C->Prop}{o:Prop}(f:∀a b c,P a b c->Q a b c->R a b c->S a b c->T a b c->o)(h:∃a b c,P a b c/\Q a b c/\R a b c/\S a b c/\T a b c):o:=h.elim λ a h=>h.elim λ b h=>h.elim λ c h=>f a b c h.1 h.2.1 h.2.2.1 h.2.2.2.1 h.2.2.2.2
theorem u9{A B C:Sort _}{P Q R S T:A->B->C->Prop}{o:Prop}(h:∃a b c,P a b c/\Q a b c/\R a b c/\S a b c/\T a b c)(f:∀a b c,P a b c->Q a b c->R a b c->S a b c->T a b c->o):o:=kE f h
theorem o_{A B C:Sort _}{P Q R S T U:A->B->C->Prop}{o:Prop}(f:∀a b c,P a b c->Q a b c->R a b c->S a b c->T a b c->U a b c->o)(h:∃a b c,P a b c/\Q a b c/\R a b c/\S a b c/\T a b c/\U a b c):o:=h.elim λ a h=>h.elim λ b h=>h.elim λ c h=>f a b c h.1 h.2.1 h.2.2.1 h.2.2.2.1 h.2.2.2.2.1 h.2.2.2.2.2
theorem rp{A B C D E F:Sort _}{P Q R S T:A->B->C->Prop}{U V:A->B->C->D->E->F->Prop}{o:Prop}(h:∃a b c,P a b c/\Q a b c/\R a b c/\S a b c/\T a b c/\∃d e g,U a b c d e g/\V a b c d e g)(f:∀a b c,P a b c->Q a b c->R a b c->S a b c->T a b c->∀d e g,U a b c d e g->V a b c d e g->o):o:=h.elim λ a h=>h.elim λ b h=>h.elim λ c h=>h.2.2.2.2.2.elim λ d x=>x.elim λ e x=>x.elim λ g x=>f a b c h.1 h.2.1 h.2.2.1 h.2.2.2.1 h.2.2.2.2.1 d e g x.1 x.2
theorem pa{A B C D E F:Sort _}{P Q R S T:A->B->C->Prop}{U V W X Y Z O N:A->B->C->D->E->F->Prop}{o:Prop}(f:∀a b c,P a b c->Q a b c->R a b c->S a b c->T a b c->∀d e g,U a b c d e g->V a b c d e g->W a b c d e g->X a b c d e g->Y a b c d e g->Z a b c d e g->O a b c d e g->N a b c d e g->o)(h:∃a b c,P a b c/\Q a b c/\R a b c/\S a b c/\T a b c/\∃d e g,U a b c d e g/\V a b c d e g/\W a b c d e g/\X a b c d e g/\Y a b c d e g/\Z a b c d e g/\O a b c d e g/\N a b c d e g):o:=h.elim λ a h=>h.elim λ b h=>h.elim λ c h=>h.2.2.2.2.2.elim λ d x=>x.elim λ e x=>x.elim λ g x=>f a b c h.1 h.2.1 h.2.2.1 h.2.2.2.1 h.2.2.2.2.1 d e g x.1 x.2.1 x.2.2.1 x.2.2.2.1 x.2.2.2.2.1 x.2.2.2.2.2.1 x.2.2.2.2.2.2.1 x.2.2.2.2.2.2.2
theorem CC{A B C D:Sort _}{P Q R:A->B->C->Prop}{S:A->B->C->D->Prop}{o:Prop}(f:∀a b c,P a b c->Q a b c->R a b c->∀d,S a b c d->o)(h:∃a b c,P a b c/\Q a b c/\R a b c/\∃d,S a b c d):o:=h.elim λ a h=>h.elim λ b h=>h.elim λ c h=>h.2.2.2.elim λ d x=>f a b c h.1 h.2.1 h.2.2.1 d x
theorem CD{A B C D:Sort _}{P Q:A->B->C->D->Prop}{o:Prop}(h:∃a b c d,P a b c d/\Q a b c d)(f:∀a b c d,P a b c d->Q a b c d->o):o:=h.elim λ a h=>h.elim λ b h=>h.elim λ c h=>h.elim λ d h=>f a b c d h.1 h.2
theorem u_{A B C D:Sort _}{P Q R:A->B->C->D->Prop}{o:Prop}(f:∀a b c d,P a b c d->Q a b c d->R a b c d->o)(h:∃a b c d,P a b c d/\Q a b c d/\R a b c d):o:=h.elim λ a h=>h.elim λ b h=>h.elim λ c h=>h.elim λ d h=>f a b c d h.1 h.2.1 h.2.2
theorem rq{A B C D:Sort _}{P Q R S:A->B->C->D->Prop}{o:Prop}(f:∀a b c d,P a b c d->Q a b c d->R a b c d->S a b c d->o)(h:∃a b c d,P a b c d/\Q a b c d/\R a b c d/\S a b c d):o:=h.elim λ a h=>h.elim λ b h=>h.elim λ c h=>h.elim λ d h=>f a b c d h.1 h.2.1 h.2.2.1 h.2.2.2
theorem va{A B C D:Sort _}{P Q R S T:A->B->C->D->Prop}{o:Prop}(h:∃a b c d,P a b c d/\Q a b c d/\R a b c d/\S a b c d/\T a b c d)(f:∀a b c d,P a b c d->Q a b c d->R a b c d->S a b c d->T a b c d->o):o:=h.elim λ a h=>h.elim λ b h=>h.elim λ c h=>h.elim λ d h=>f a b c d h.1 h.2.1 h.2.2.1 h.2.2.2.1 h.2.2.2.2
theorem fz{a b G:Prop}(f:a->G)(g:b->G)(h:a∨b):G:=h.elim f g
theorem rr{a b c G:Prop}(h:a∨b∨c)(f:a->G)(g:b->G)(k:c->G):G:=h.elim f λ h=>h.elim g k
theorem rt{a b c G:Prop}(f:a->G)(g:b->G)(k:c->G)(h:a∨b∨c):G:=rr h f g k
theorem CE{a b c d G:Prop}(h:a∨b∨c∨d)(f:a->G)(g:b->G)(k:c->G)(l:d->G):G:=h.elim f λ h=>rr h g k l
theorem gj{a b c d G:Prop}(f:a->G)(g:b->G)(k:c->G)(l:d->G)(h:a∨b∨c∨d):G:=CE h f g k l
theorem CF{A B C:Sort _}{P o:Prop}{Q:A->B->C->Prop}(f:P->∀a b c,Q a b c->o)(h:P/\∃a b c,Q a b c):o:=h.2.elim λ a x=>x.elim λ b x=>x.elim λ c x=>f h.1 a b c x
theorem CG{A B:Sort _}{P Q:A->Prop}{R:A->B->Prop}{o:Prop}(f:∀a,P a->Q a->∀b,R a b->o)(h:∃a,P a/\Q a/\∃b,R a b):o:=h.elim λ a h=>h.2.2.elim λ b x=>f a h.1 h.2.1 b x
theorem CH{A B C D:Sort _}{P Q R S:A->B->Prop}{T U V W X Y Z:A->B->C->Prop}{O N M L K:A->B->C->D->Prop}{o:Prop}(f:∀a b,P a b->Q a b->R a b->S a b->∀c,T a b c->U a b c->V a b c->W a b c->X a b c->Y a b c->Z a b c->∀d,O a b c d->N a b c d->M a b c d->L a b c d->K a b c d->o)(h:∃a b,P a b/\Q a b/\R a b/\S a b/\∃c,T a b c/\U a b c/\V a b c/\W a b c/\X a b c/\Y a b c/\Z a b c/\∃d,O a b c d/\N a b c d/\M a b c d/\L a b c d/\K a b c d):o:=h.elim λ a h=>h.elim λ b h=>h.2.2.2.2.elim λ c x=>x.2.2.2.2.2.2.2.elim λ d y=>f a b h.1 h.2.1 h.2.2.1 h.2.2.2.1 c x.1 x.2.1 x.2.2.1 x.2.2.2.1 x.2.2.2.2.1 x.2.2.2.2.2.1 x.2.2.2.2.2.2.1 d y.1 y.2.1 y.2.2.1 y.2.2.2.1 y.2.2.2.2
theorem CI{A B C D E F:Sort _}{P Q R S:A->B->C->Prop}{T:A->B->C->D->E->F->Prop}{o:Prop}(f:∀a b c,P a b c->Q a b c->R a b c->S a b c->∀d e g,T a b c d e g->o)(h:∃a b c,P a b c/\Q a b c/\R a b c/\S a b c/\∃d e g,T a b c d e g):o:=h.elim λ a h=>h.elim λ b h=>h.elim λ c h=>h.2.2.2.2.elim λ d x=>x.elim λ e x=>x.elim λ g x=>f a b c h.1 h.2.1 h.2.2.1 h.2.2.2.1 d e g x
theorem CJ{A B C D:Sort _}{P Q R S T U:A->B->C->D->Prop}{o:Prop}(f:∀a b c d,P a b c d->Q a b c d->R a b c d->S a b c d->T a b c d->U a b c d->o)(h:∃a b c d,P a b c d/\Q a b c d/\R a b c d/\S a b c d/\T a b c d/\U a b c d):o:=h.elim λ a h=>h.elim λ b h=>h.elim λ c h=>h.elim λ d h=>f a b c d h.1 h.2.1 h.2.2.1 h.2.2.2.1 h.2.2.2.2.1 h.2.2.2.2.2
theorem CK{A B C D:Sort _}{P Q R S T U V W X:A->B->C->D->Prop}{o:Prop}(f:∀a b c d,P a b c d->Q a b c d->R a b c d->S a b c d->T a b c d->U a b c d->V a b c d->W a b c d->X a b c d->o)(h:∃a b c d,P a b c d/\Q a b c d/\R a b c d/\S a b c d/\T a b c d/\U a b c d/\V a b c d/\W a b c d/\X a b c d):o:=h.elim λ a h=>h.elim λ b h=>h.elim λ c h=>h.elim λ d h=>f a b c d h.1 h.2.1 h.2.2.1 h.2.2.2.1 h.2.2.2.2.1 h.2.2.2.2.2.1 h.2.2.2.2.2.2.1 h.2.2.2.2.2.2.2.1 h.2.2.2.2.2.2.2.2
theorem CL{A B C D E:Sort _}{P Q R S T U V W X Y:A->B->C->D->E->Prop}{o:Prop}(f:∀a b c d e,P a b c d e->Q a b c d e->R a b c d e->S a b c d e->T a b c d e->U a b c d e->V a b c d e->W a b c d e->X a b c d e->Y a b c d e->o)(h:∃a b c d e,P a b c d e/\Q a b c d e/\R a b c d e/\S a b c d e/\T a b c d e/\U a b c d e/\V a b c d e/\W a b c d e/\X a b c d e/\Y a b c d e):o:=h.elim λ a h=>h.elim λ b h=>h.elim λ c h=>h.elim λ d h=>h.elim λ e h=>f a b c d e h.1 h.2.1 h.2.2.1 h.2.2.2.1 h.2.2.2.2.1 h.2.2.2.2.2.1 h.2.2.2.2.2.2.1 h.2.2.2.2.2.2.2.1 h.2.2.2.2.2.2.2.2.1 h.2.2.2.2.2.2.2.2.2
theorem CM{A:Sort _}{P o:Prop}{Q R S T:A->Prop}(h:P/\∃a,Q a/\R a/\S a/\T a)(f:P->∀a,Q a->R a->S a->T a->o):o:=h.2.elim λ a x=>f h.1 a x.1 x.2.1 x.2.2.1 x.2.2.2
theorem CN{A B:Sort _}{P o:Prop}{Q R:A->B->Prop}(h:P/\∃a b,Q a b/\R a b)(f:P->∀a b,Q a b->R a b->o):o:=uX f h
theorem CO{A B:Sort _}{P o:Prop}{Q R S T U:A->B->Prop}(h:P/\∃a b,Q a b/\R a b/\S a b/\T a b/\U a b)(f:P->∀a b,Q a b->R a b->S a b->T a b->U a b->o):o:=h.2.elim λ a x=>x.elim λ b x=>f h.1 a b x.1 x.2.1 x.2.2.1 x.2.2.2.1 x.2.2.2.2
theorem CP{A B:Sort _}{P o:Prop}{Q R S T U V:A->B->Prop}(h:P/\∃a b,Q a b/\R a b/\S a b/\T a b/\U a b/\V a b)(f:P->∀a b,Q a b->R a b->S a b->T a b->U a b->V a b->o):o:=h.2.elim λ a x=>x.elim λ b x=>f h.1 a b x.1 x.2.1 x.2.2.1 x.2.2.2.1 x.2.2.2.2.1 x.2.2.2.2.2
theorem CQ{A B:Sort _}{P Q:A->Prop}{R S T U V W:A->B->Prop}{o:Prop}(h:∃a,P a/\Q a/\∃b,R a b/\S a b/\T a b/\U a b/\V a b/\W a b)(f:∀a,P a->Q a->∀b,R a b->S a b->T a b->U a b->V a b->W a b->o):o:=h.elim λ a h=>h.2.2.elim λ b x=>f a h.1 h.2.1 b x.1 x.2.1 x.2.2.1 x.2.2.2.1 x.2.2.2.2.1 x.2.2.2.2.2
theorem vc{A B C D:Sort _}{P Q R S:A->B->C->D->Prop}{o:Prop}(h:∃a b c d,P a b c d/\Q a b c d/\R a b c d/\S a b c d)(f:∀a b c d,P a b c d->Q a b c d->R a b c d->S a b c d->o):o:=rq f h
theorem vd{A B C D E F G H I:Sort _}{P Q R S T:A->B->C->D->E->F->G->H->I->Prop}{o:Prop}(h:∃a b c d e g i j k,P a b c d e g i j k/\Q a b c d e g i j k/\R a b c d e g i j k/\S a b c d e g i j k/\T a b c d e g i j k)(f:∀a b c d e g i j k,P a b c d e g i j k->Q a b c d e g i j k->R a b c d e g i j k->S a b c d e g i j k->T a b c d e g i j k->o):o:=h.elim λ a h=>h.elim λ b h=>h.elim λ c h=>h.elim λ d h=>h.elim λ e h=>h.elim λ g h=>h.elim λ i h=>h.elim λ j h=>h.elim λ k h=>f a b c d e g i j k h.1 h.2.1 h.2.2.1 h.2.2.2.1 h.2.2.2.2
theorem CR{A:Sort _}{P Q R o:Prop}{S T U V W:A->Prop}(f:P->Q->R->∀a,S a->T a->U a->V a->W a->o)(h:P/\Q/\R/\∃a,S a/\T a/\U a/\V a/\W a):o:=h.2.2.2.elim λ a x=>f h.1 h.2.1 h.2.2.1 a x.1 x.2.1 x.2.2.1 x.2.2.2.1 x.2.2.2.2
theorem eG{α β:Type _}{o:Option α}{f:α->β}{b:β}{M:β->Prop}(h:o.map f=W6 b)(k:∀a,o=W6 a->M (f a)):M b:= (ez.mp h).elim λ a h=>h.2 ▸ k a h.1
theorem CS{α β:Type _}{l:List α}{f:α->β}{b:β}{M:β->Prop}(h:b∈l.map f)(k:∀a,a∈l->M (f a)):M b:= (cZ.mp h).elim λ a h=>h.2 ▸ k a h.1
theorem ru{Ux:Sort _}{Wp:Sort _}{β:Sort _}{v:β}{T:Ux->Wp->β}{p1:Ux->Wp->Prop}{M:β->Prop}(f:∀x1,∀x2,p1 x1 x2->M (T x1 x2))(h0:∃x1,∃x2,v=T x1 x2/\p1 x1 x2):M v:=h0.elim λ x1 h1=>h1.elim λ x2 h2=>h2.1 ▸ f x1 x2 h2.2
theorem cK{p1:Prop}{p2:Prop}{G A:Prop}(L:A->p1/\p2)(f:p1->p2->G)(a:A):G:=aI (L a) f
theorem fT{p1:Prop}{p2:Prop}{p3:Prop}{G A:Prop}(L:A->p1/\p2/\p3)(f:p1->p2->p3->G)(a:A):G:=cE (L a) f
theorem CT{p1:Prop}{p2:Prop}{p3:Prop}{p4:Prop}{G A:Prop}(L:A->p1/\p2/\p3/\p4)(f:p1->p2->p3->p4->G)(a:A):G:=iH (L a) f
theorem cj{Ux:Sort _}{p1:Ux->Prop}{p2:Ux->Prop}{G A:Prop}(L:A->∃x1,p1 x1/\p2 x1)(f:∀x1,p1 x1->p2 x1->G)(a:A):G:=aj (L a) f
theorem ve{Ux:Sort _}{p1:Ux->Prop}{p2:Ux->Prop}{p3:Ux->Prop}{G A:Prop}(L:A->∃x1,p1 x1/\p2 x1/\p3 x1)(f:∀x1,p1 x1->p2 x1->p3 x1->G)(a:A):G:=cO (L a) f
theorem vg{Ux:Sort _}{p1:Ux->Prop}{p2:Ux->Prop}{p3:Ux->Prop}{p4:Ux->Prop}{p5:Ux->Prop}{G A:Prop}(L:A->∃x1,p1 x1/\p2 x1/\p3 x1/\p4 x1/\p5 x1)(f:∀x1,p1 x1->p2 x1->p3 x1->p4 x1->p5 x1->G)(a:A):G:=uZ (L a) f
theorem CU{Ux:Sort _}{Wp:Sort _}{p1:Ux->Wp->Prop}{p2:Ux->Wp->Prop}{G A:Prop}(L:A->∃x1,∃x2,p1 x1 x2/\p2 x1 x2)(f:∀x1,∀x2,p1 x1 x2->p2 x1 x2->G)(a:A):G:=cY (L a) f
theorem hid{A:Prop}(h:∀G:Prop,(A->G)->G):A:=h A id
end
noncomputable abbrev pw:Program:=Challenge.pw_sa0550_01
noncomputable def tp(i:Nat):cD:= (pw.main.body[i]?).getD (.Pass default)
noncomputable def inB(s:cD)(j:Nat):cD:=if h:s.ctorIdx=2 then cD.ClassDef.elim s h λ _ _ _ b _ _ _ _ _ _ _=>(b[j]?).getD (.Pass default) else .Pass default
noncomputable def mt(i j:Nat):cD:=inB (tp i) j
noncomputable def vh:Arguments:=⟨[], [],W7, [], [],W7, []⟩
noncomputable def fA(s:cD):Arguments:=if h:s.ctorIdx=0 then uR s h λ _ a _ _ _ _ _ _ _ _=>a else vh
noncomputable def fB(s:cD):List cD:=if h:s.ctorIdx=0 then uR s h λ _ _ b _ _ _ _ _ _ _=>b else[]
noncomputable def fS(s:cD):et:=if h:s.ctorIdx=0 then uR s h λ _ _ _ _ _ _ s _ _ _=>s else { kind:= .function,names:= [],isGenerator:=W9,isCoroutine:=W9 }
noncomputable def de(P:fm)(x:ab)(t:Tok)(v:az):DictEntry:=⟨f7 P x, .str x t,v⟩
noncomputable def b8(n q:ab)(s:cD)(d:az)(m:ab)(t:Tok)(c:ak):Obj:=⟨(.type "function"),W7,(.func { name:=n,qualname:=q,params:=fA s,body:= .stmts (fB s),scope:=fS s,globals:=ie,closure:= [],defaults:=d,kwdefaults:= .none,doc:= .none,pyModule:= (.str m t),annotations:=W7,code:= (.ref c),closureTuple:= .none,builtins:=builtinsNs }), [].toArray⟩
noncomputable def cP(n q:ab)(t:Tok)(l a:Int)(r:ak)(k:Nat):Obj:=⟨(.type "code"),W7,(.fields [(.str n t),(.str q (t+1)),(.str "/claim/cut.py" (t+2)),(.int l 0),(.int a 0),(.int 0 0),(.int 0 0),(.int 3 0),(.ref r),(.bool W8),(.int 181 0),(.ref (r+1)), .none,(.ref (r+2)),(.ref (r+3)),(.ref (r+4)),(.int k 0),(.int l 0),(.str "/claim/cut.py" (k+1))].toArray), [].toArray⟩
noncomputable def jM(n q:ab)(t:Tok)(l a:Int)(r:ak)(k:Nat):Obj:=⟨(.type "code"),W7,(.fields [(.str n t),(.str q (t+1)),(.str "/claim/cut.py" (t+2)),(.int l 0),(.int a 0),(.int 0 0),(.int 0 0),(.int 3 0),(.ref r),(.bool W8),(.int 181 0),(.ref (r+1)), .none, .none, .none,(.ref (r+2)),(.int k 0),(.int l 0),(.str "/claim/cut.py" (k+1))].toArray), [].toArray⟩
noncomputable def o3(P:fm):Obj:=⟨(.type "dict"),W7,(.dict [de P "__name__" 165 (.str "law_sa0550_01" 951),de P "__doc__" 166 .none,de P "__package__" 167 .none,de P "__loader__" 168 (.builtin "__main__.__loader__#opaque"),de P "__spec__" 169 .none,de P "__annotations__" 170 (.ref 6),de P "__builtins__" 171 (.ref 4),de P "__file__" 173 (.str "/claim/cut.py" 172),de P "__cached__" 174 .none,de P "_wall" 193 (.ref 21),de P "PostError" 235 (.ref 46),de P "WordFault" 251 (.ref 59),de P "WireFault" 267 (.ref 71),de P "CRLF" 271 (.bytes #[13,10] 270),de P "MOST_FIGURES_octets" 273 (.int (20) 272),de P "Cursor" 385 (.ref 155),de P "lower_code" 392 (.ref 166),de P "lower" 398 (.ref 171),de P "upper_text" 404 (.ref 176),de P "ascii_text" 410 (.ref 181),de P "text_octets" 416 (.ref 186),de P "WORDS" 424 (.ref 187),de P "FIELD_WORDS" 427 (.ref 188),de P "MOST_NUMBER" 429 (.int (4294967295) 428),de P "LETTERS" 431 (.bytes #[65,66,67,68,69,70,71,72,73,74,75,76,77,78,79,80,81,82,83,84,85,86,87,88,89,90,97,98,99,100,101,102,103,104,105,106,107,108,109,110,111,112,113,114,115,116,117,118,119,120,121,122,46] 430),de P "BARRED" 433 (.bytes #[40,41,123,37,42,34,92,93,32] 432),de P "QUOTE_sections" 435 (.int (34) 434),de P "BACKSLASH_sections" 437 (.int (92) 436),de P "Section" 480 (.ref 214),de P "need" 488 (.ref 225),de P "take_number" 499 (.ref 232),de P "is_figure" 506 (.ref 349),de P "is_figure_sections" 507 (.ref 239),de P "take_path" 515 (.ref 246),de P "take_word" 521 (.ref 251),de P "is_atom_code" 528 (.ref 335),de P "is_atom_code_sections" 529 (.ref 258),de P "take_quoted" 539 (.ref 265),de P "take_name" 547 (.ref 272),de P "take_names" 555 (.ref 279),de P "take_partial" 564 (.ref 286),de P "read_section" 577 (.ref 293),de P "QUOTE_wire" 581 (.int (34) 580),de P "BACKSLASH_wire" 583 (.int (92) 582),de P "MOST_DEPTH" 585 (.int (30) 584),de P "MOST_FIGURES_wire" 587 (.int (19) 586),de P "MOST_COUNT_FIGURES" 589 (.int (10) 588),de P "SPECIALS" 591 (.bytes #[40,41,123,37,42,34,92,93] 590),de P "VALUE_SPECIALS" 593 (.bytes #[40,41,123,34,93] 592),de P "Atom" 629 (.ref 317),de P "is_printable" 636 (.ref 328),de P "is_atom_code_wire" 644 (.ref 335),de P "is_value_code" 651 (.ref 342),de P "is_figure_wire" 659 (.ref 349),de P "number_of_figures" 668 (.ref 356),de P "Wire" 889 (.ref 541),de P "PLAIN_ITEMS" 893 (.str "FLAGS UID INTERNALDATE RFC822.SIZE ENVELOPE BODY BODYSTRUCTURE MODSEQ" 892),de P "WHOLE_ITEMS" 895 (.str "RFC822 RFC822.HEADER RFC822.TEXT" 894),de P "FAST" 897 (.str "FLAGS INTERNALDATE RFC822.SIZE" 896),de P "MACROS" 899 (.str "FAST ALL FULL" 898),de P "is_item_code" 906 (.ref 552),de P "macro_items" 912 (.ref 557),de P "plain_item" 919 (.ref 564),de P "section_end" 928 (.ref 571),de P "section_here" 934 (.ref 576),de P "item_here" 944 (.ref 583),de P "read_items" 950 (.ref 588),de P "_law_units" 963 (.ref 589),de P "_law_tape" 973 (.ref 596),de P "_law_draw" 982 (.ref 603),de P "_law_octets" 988 (.ref 608),de P "_law_asked" 996 (.ref 615),de P "law" 1002 (.ref 620)].toArray 73), [].toArray⟩
noncomputable def rx:Obj:=⟨(.type "tuple"),W7,(.seq [(.int (-1) 209)].toArray 0), [].toArray⟩
noncomputable def CV:Obj:=cP "__init__" "PostError.__init__" 210 7 3 30 216
noncomputable def vj:Obj:=b8 "__init__" "PostError.__init__" (mt 2 0) (.ref 29) "postkeep.errors" 194 35
noncomputable def CW(P:fm):Obj:=⟨(.type "dict"),W7,(.dict [de P "__module__" 203 (.str "postkeep.errors" 194),de P "__firstlineno__" 207 (.int (5) 206),de P "__init__" 218 (.ref 36),de P "told" 225 (.ref 43),de P "__static_attributes__" 228 (.ref 44),de P "__weakref__" 230 (.ref 47),de P "__doc__" 231 .none].toArray 3), [].toArray⟩
noncomputable def CX:Obj:=⟨(.type "type"),W7,(.cls { name:= "PostError",bases:= [(.type "Exception")],mro:= [(.ref 46),(.type "Exception"),(.type "BaseException"),(.type "object")],ns:=45,qualname:= "PostError",hasDict:=W8,slotNames:= [],subclasses:= [(.ref 59),(.ref 71)],abstract:=W9,collection:=W7,hasDel:=W9 }), [W6 (.ref 22),W7,W6 (.str "PostError" 196),W6 (.str "PostError" 204),W6 (.builtin "Exception.__new__"),W6 (.bool W8)].toArray⟩
noncomputable def CY(P:fm):Obj:=⟨(.type "dict"),W7,(.dict [de P "__module__" 259 (.str "postkeep.errors" 194),de P "__firstlineno__" 263 (.int (16) 262),de P "__static_attributes__" 264 (.ref 69),de P "__doc__" 265 .none].toArray 2), [].toArray⟩
noncomputable def CZ:Obj:=⟨(.type "type"),W7,(.cls { name:= "WireFault",bases:= [(.ref 46)],mro:= [(.ref 71),(.ref 46),(.type "Exception"),(.type "BaseException"),(.type "object")],ns:=70,qualname:= "WireFault",hasDict:=W8,slotNames:= [],subclasses:= [],abstract:=W9,collection:=W7,hasDel:=W9 }), [W6 (.ref 62),W7,W6 (.str "WireFault" 252),W6 (.str "WireFault" 260),W6 (.builtin "Exception.__new__"),W6 (.bool W8)].toArray⟩
noncomputable def ry:Obj:=⟨(.type "tuple"),W7,(.seq [(.int (0) 286),(.int (-1) 288)].toArray 0), [].toArray⟩
noncomputable def C0:Obj:=cP "__init__" "Cursor.__init__" 289 23 4 82 296
noncomputable def vk:Obj:=b8 "__init__" "Cursor.__init__" (mt 8 0) (.ref 81) "postkeep.octets" 268 87
noncomputable def C1:Obj:=cP "is_done" "Cursor.is_done" 299 28 1 89 303
noncomputable def vl:Obj:=b8 "is_done" "Cursor.is_done" (mt 8 1) .none "postkeep.octets" 268 94
noncomputable def rz:Obj:=⟨(.type "tuple"),W7,(.seq [(.int (0) 306)].toArray 0), [].toArray⟩
noncomputable def C2:Obj:=cP "peek" "Cursor.peek" 307 31 2 97 313
noncomputable def vm:Obj:=b8 "peek" "Cursor.peek" (mt 8 2) (.ref 96) "postkeep.octets" 268 102
noncomputable def C3:Obj:=cP "take" "Cursor.take" 316 35 1 104 321
noncomputable def vo:Obj:=b8 "take" "Cursor.take" (mt 8 3) .none "postkeep.octets" 268 109
noncomputable def C4:Obj:=cP "starts" "Cursor.starts" 324 41 2 111 329
noncomputable def vp:Obj:=b8 "starts" "Cursor.starts" (mt 8 4) .none "postkeep.octets" 268 116
noncomputable def C5:Obj:=cP "skip" "Cursor.skip" 332 44 2 118 337
noncomputable def vq:Obj:=b8 "skip" "Cursor.skip" (mt 8 5) .none "postkeep.octets" 268 123
noncomputable def C6:Obj:=cP "take_while" "Cursor.take_while" 340 50 2 125 346
noncomputable def vr:Obj:=b8 "take_while" "Cursor.take_while" (mt 8 6) .none "postkeep.octets" 268 130
noncomputable def C7:Obj:=cP "number" "Cursor.number" 357 59 1 139 364
noncomputable def vt:Obj:=b8 "number" "Cursor.number" (mt 8 8) .none "postkeep.octets" 268 144
noncomputable def C8(P:fm):Obj:=⟨(.type "dict"),W7,(.dict [de P "__module__" 281 (.str "postkeep.octets" 268),de P "__firstlineno__" 285 (.int (21) 284),de P "__init__" 298 (.ref 88),de P "is_done" 305 (.ref 95),de P "peek" 315 (.ref 103),de P "take" 323 (.ref 110),de P "starts" 331 (.ref 117),de P "skip" 339 (.ref 124),de P "take_while" 348 (.ref 131),de P "take_until" 356 (.ref 138),de P "number" 366 (.ref 145),de P "find" 374 (.ref 152),de P "__static_attributes__" 378 (.ref 153),de P "__dict__" 380 (.ref 156),de P "__weakref__" 382 (.ref 157),de P "__doc__" 383 .none].toArray 4), [].toArray⟩
noncomputable def C9:Obj:=⟨(.type "type"),W7,(.cls { name:= "Cursor",bases:= [(.type "object")],mro:= [(.ref 155),(.type "object")],ns:=154,qualname:= "Cursor",hasDict:=W8,slotNames:= [],subclasses:= [],abstract:=W9,collection:=W7,hasDel:=W9 }), [W7,W7,W6 (.str "Cursor" 274),W6 (.str "Cursor" 282),W6 (.builtin "object.__new__"),W6 (.bool W8)].toArray⟩
noncomputable def C_:Obj:=jM "upper_text" "upper_text" 399 76 1 172 402
noncomputable def vu:Obj:=b8 "upper_text" "upper_text" (tp 11) .none "postkeep.octets" 268 175
noncomputable def Da:Obj:=jM "ascii_text" "ascii_text" 405 78 1 177 408
noncomputable def vw:Obj:=b8 "ascii_text" "ascii_text" (tp 12) .none "postkeep.octets" 268 180
noncomputable def Dc:Obj:=jM "text_octets" "text_octets" 411 83 1 182 414
noncomputable def vx:Obj:=b8 "text_octets" "text_octets" (tp 13) .none "postkeep.octets" 268 185
noncomputable def Dd:Obj:=⟨(.type "tuple"),W7,(.seq [(.str "HEADER" 419),(.str "TEXT" 420),(.str "MIME" 421),(.str "HEADER.FIELDS" 422),(.str "HEADER.FIELDS.NOT" 423)].toArray 0), [].toArray⟩
noncomputable def De:Obj:=⟨(.type "tuple"),W7,(.seq [(.str "HEADER.FIELDS" 425),(.str "HEADER.FIELDS.NOT" 426)].toArray 0), [].toArray⟩
noncomputable def vy:Obj:=⟨(.type "tuple"),W7,(.seq [(.str "" 450),(.ref 196), .none].toArray 0), [].toArray⟩
noncomputable def Df:Obj:=cP "__init__" "Section.__init__" 451 98 5 198 459
noncomputable def rA:Obj:=b8 "__init__" "Section.__init__" (mt 22 0) (.ref 197) "postkeep.sections" 417 203
noncomputable def Dg(P:fm):Obj:=⟨(.type "dict"),W7,(.dict [de P "__module__" 445 (.str "postkeep.sections" 417),de P "__firstlineno__" 449 (.int (96) 448),de P "__init__" 461 (.ref 204),de P "told" 468 (.ref 211),de P "__static_attributes__" 473 (.ref 212),de P "__dict__" 475 (.ref 215),de P "__weakref__" 477 (.ref 216),de P "__doc__" 478 .none].toArray 4), [].toArray⟩
noncomputable def Dh:Obj:=⟨(.type "type"),W7,(.cls { name:= "Section",bases:= [(.type "object")],mro:= [(.ref 214),(.type "object")],ns:=213,qualname:= "Section",hasDict:=W8,slotNames:= [],subclasses:= [],abstract:=W9,collection:=W7,hasDel:=W9 }), [W7,W7,W6 (.str "Section" 438),W6 (.str "Section" 446),W6 (.builtin "object.__new__"),W6 (.bool W8)].toArray⟩
noncomputable def Di:Obj:=cP "need" "need" 481 106 2 219 486
noncomputable def vz:Obj:=b8 "need" "need" (tp 23) .none "postkeep.sections" 417 224
noncomputable def Dj:Obj:=cP "take_number" "take_number" 489 109 2 226 497
noncomputable def vA:Obj:=b8 "take_number" "take_number" (tp 24) .none "postkeep.sections" 417 231
noncomputable def Dk:Obj:=cP "is_figure" "is_figure" 500 116 1 233 504
noncomputable def vB:Obj:=b8 "is_figure" "is_figure" (tp 25) .none "postkeep.sections" 417 238
noncomputable def Dl:Obj:=cP "take_path" "take_path" 508 119 1 240 513
noncomputable def vC:Obj:=b8 "take_path" "take_path" (tp 27) .none "postkeep.sections" 417 245
noncomputable def Dm:Obj:=jM "take_word" "take_word" 516 127 2 247 519
noncomputable def vD:Obj:=b8 "take_word" "take_word" (tp 28) .none "postkeep.sections" 417 250
noncomputable def Dn:Obj:=cP "take_quoted" "take_quoted" 530 140 1 259 537
noncomputable def vE:Obj:=b8 "take_quoted" "take_quoted" (tp 31) .none "postkeep.sections" 417 264
noncomputable def Do:Obj:=cP "take_name" "take_name" 540 155 1 266 545
noncomputable def vF:Obj:=b8 "take_name" "take_name" (tp 32) .none "postkeep.sections" 417 271
noncomputable def Dp:Obj:=cP "take_names" "take_names" 548 165 1 273 553
noncomputable def vG:Obj:=b8 "take_names" "take_names" (tp 33) .none "postkeep.sections" 417 278
noncomputable def Dq:Obj:=cP "take_partial" "take_partial" 556 173 1 280 562
noncomputable def vH:Obj:=b8 "take_partial" "take_partial" (tp 34) .none "postkeep.sections" 417 285
noncomputable def Ds:Obj:=cP "read_section" "read_section" 565 181 1 287 575
noncomputable def vI:Obj:=b8 "read_section" "read_section" (tp 35) .none "postkeep.sections" 417 292
noncomputable def Dt:Obj:=cP "__init__" "Atom.__init__" 606 205 2 301 611
noncomputable def Du:Obj:=b8 "__init__" "Atom.__init__" (mt 44 0) .none "postkeep.wire" 578 306
noncomputable def Dv:Obj:=cP "is_printable" "is_printable" 630 210 1 322 634
noncomputable def vJ:Obj:=b8 "is_printable" "is_printable" (tp 45) .none "postkeep.wire" 578 327
noncomputable def Dw:Obj:=cP "is_figure" "is_figure" 652 217 1 343 656
noncomputable def Dy:Obj:=b8 "is_figure" "is_figure" (tp 49) .none "postkeep.wire" 578 348
noncomputable def vK:Obj:=⟨(.type "tuple"),W7,(.seq [(.int (0) 681)].toArray 0), [].toArray⟩
noncomputable def Dz:Obj:=cP "__init__" "Wire.__init__" 682 227 3 365 688
noncomputable def vL:Obj:=b8 "__init__" "Wire.__init__" (mt 52 0) (.ref 364) "postkeep.wire" 578 370
noncomputable def DA:Obj:=cP "fault" "Wire.fault" 691 231 2 372 696
noncomputable def vM:Obj:=b8 "fault" "Wire.fault" (mt 52 1) .none "postkeep.wire" 578 377
noncomputable def DB:Obj:=cP "peek" "Wire.peek" 699 234 1 379 703
noncomputable def vN:Obj:=b8 "peek" "Wire.peek" (mt 52 2) .none "postkeep.wire" 578 384
noncomputable def DC:Obj:=cP "skip" "Wire.skip" 706 237 2 386 711
noncomputable def vO:Obj:=b8 "skip" "Wire.skip" (mt 52 3) .none "postkeep.wire" 578 391
noncomputable def DD:Obj:=cP "need" "Wire.need" 714 243 3 393 720
noncomputable def vP:Obj:=b8 "need" "Wire.need" (mt 52 4) .none "postkeep.wire" 578 398
noncomputable def DE:Obj:=cP "space" "Wire.space" 723 247 1 400 727
noncomputable def vQ:Obj:=b8 "space" "Wire.space" (mt 52 5) .none "postkeep.wire" 578 405
noncomputable def DF:Obj:=cP "run" "Wire.run" 737 253 2 414 743
noncomputable def vR:Obj:=b8 "run" "Wire.run" (mt 52 7) .none "postkeep.wire" 578 419
noncomputable def DH:Obj:=cP "word_of" "Wire.word_of" 746 259 3 421 753
noncomputable def vS:Obj:=b8 "word_of" "Wire.word_of" (mt 52 8) .none "postkeep.wire" 578 426
noncomputable def DI:Obj:=cP "number" "Wire.number" 792 280 1 463 798
noncomputable def DJ:Obj:=b8 "number" "Wire.number" (mt 52 14) .none "postkeep.wire" 578 468
noncomputable def DK:Obj:=cP "quoted" "Wire.quoted" 801 287 1 470 806
noncomputable def vT:Obj:=b8 "quoted" "Wire.quoted" (mt 52 15) .none "postkeep.wire" 578 475
noncomputable def DL:Obj:=cP "list_of" "Wire.list_of" 855 331 2 519 861
noncomputable def vU:Obj:=b8 "list_of" "Wire.list_of" (mt 52 22) .none "postkeep.wire" 578 524
noncomputable def DM(P:fm):Obj:=⟨(.type "dict"),W7,(.dict [de P "__module__" 676 (.str "postkeep.wire" 578),de P "__firstlineno__" 680 (.int (225) 679),de P "__init__" 690 (.ref 371),de P "fault" 698 (.ref 378),de P "peek" 705 (.ref 385),de P "skip" 713 (.ref 392),de P "need" 722 (.ref 399),de P "space" 729 (.ref 406),de P "done" 736 (.ref 413),de P "run" 745 (.ref 420),de P "word_of" 755 (.ref 427),de P "atom" 762 (.ref 434),de P "word" 769 (.ref 441),de P "skip_word" 777 (.ref 448),de P "set_text" 784 (.ref 455),de P "flag" 791 (.ref 462),de P "number" 800 (.ref 469),de P "quoted" 808 (.ref 476),de P "literal" 818 (.ref 483),de P "string" 825 (.ref 490),de P "string_or" 833 (.ref 497),de P "astring" 840 (.ref 504),de P "pattern" 847 (.ref 511),de P "nstring" 854 (.ref 518),de P "list_of" 863 (.ref 525),de P "plain_value" 869 (.ref 530),de P "value" 879 (.ref 538),de P "__static_attributes__" 882 (.ref 539),de P "__dict__" 884 (.ref 542),de P "__weakref__" 886 (.ref 543),de P "__doc__" 887 .none].toArray 4), [].toArray⟩
noncomputable def DN:Obj:=⟨(.type "type"),W7,(.cls { name:= "Wire",bases:= [(.type "object")],mro:= [(.ref 541),(.type "object")],ns:=540,qualname:= "Wire",hasDict:=W8,slotNames:= [],subclasses:= [],abstract:=W9,collection:=W7,hasDel:=W9 }), [W7,W7,W6 (.str "Wire" 669),W6 (.str "Wire" 677),W6 (.builtin "object.__new__"),W6 (.bool W8)].toArray⟩
noncomputable def DO:Obj:=cP "is_item_code" "is_item_code" 900 374 1 546 904
noncomputable def vV:Obj:=b8 "is_item_code" "is_item_code" (tp 58) .none "postkeep.fetch" 890 551
noncomputable def DP:Obj:=cP "plain_item" "plain_item" 913 383 1 558 917
noncomputable def vW:Obj:=b8 "plain_item" "plain_item" (tp 60) .none "postkeep.fetch" 890 563
noncomputable def DQ:Obj:=cP "section_end" "section_end" 920 387 1 565 926
noncomputable def vX:Obj:=b8 "section_end" "section_end" (tp 61) .none "postkeep.fetch" 890 570
noncomputable def DR:Obj:=jM "section_here" "section_here" 929 404 1 572 932
noncomputable def vY:Obj:=b8 "section_here" "section_here" (tp 62) .none "postkeep.fetch" 890 575
noncomputable def DS:Obj:=cP "item_here" "item_here" 935 414 1 577 942
noncomputable def vZ:Obj:=b8 "item_here" "item_here" (tp 63) .none "postkeep.fetch" 890 582
noncomputable def v3:Obj:=jM "read_items" "read_items" 945 423 1 584 948
noncomputable def v5:Obj:=b8 "read_items" "read_items" (tp 64) .none "postkeep.fetch" 890 587
noncomputable def DT:Obj:=⟨(.type "tuple"),W7,(.seq [(.str "a" 953),(.str "Z" 954),(.str " " 955),(.str "]" 956),(.str "{" 957),(.str "(" 958),(.str (Str.ofString "\\\"") 959),(.str "\\\\" 960),(.str "%" 961),(.str "~" 962)].toArray 0), [].toArray⟩
noncomputable def DU:Obj:=cP "_law_tape" "_law_tape" 964 437 1 590 971
noncomputable def v7:Obj:=b8 "_law_tape" "_law_tape" (tp 67) .none "law_sa0550_01" 951 595
noncomputable def DV:Obj:=cP "_law_draw" "_law_draw" 974 443 2 597 980
noncomputable def v8:Obj:=b8 "_law_draw" "_law_draw" (tp 68) .none "law_sa0550_01" 951 602
noncomputable def DW:Obj:=jM "_law_octets" "_law_octets" 983 450 1 604 986
noncomputable def v9:Obj:=b8 "_law_octets" "_law_octets" (tp 69) .none "law_sa0550_01" 951 607
noncomputable def DX:Obj:=cP "_law_asked" "_law_asked" 989 452 1 609 994
noncomputable def rB:Obj:=b8 "_law_asked" "_law_asked" (tp 70) .none "law_sa0550_01" 951 614
noncomputable def v_:Obj:=jM "law" "law" 997 457 1 616 1000
noncomputable def wa:Obj:=b8 "law" "law" (tp 71) .none "law_sa0550_01" 951 619
noncomputable def K0(P:fm):Frag:= [(3,o3 P),(29,rx),(35,CV),(36,vj),(45,CW P),(46,CX),(70,CY P),(71,CZ),(81,ry),(87,C0),(88,vk),(94,C1),(95,vl),(96,rz),(102,C2),(103,vm),(109,C3),(110,vo),(116,C4),(117,vp),(123,C5),(124,vq),(130,C6),(131,vr),(144,C7),(145,vt),(154,C8 P),(155,C9),(175,C_),(176,vu),(180,Da),(181,vw),(185,Dc),(186,vx),(187,Dd),(188,De),(197,vy),(203,Df),(204,rA),(213,Dg P),(214,Dh),(224,Di),(225,vz),(231,Dj),(232,vA),(238,Dk),(239,vB),(245,Dl),(246,vC),(250,Dm),(251,vD),(264,Dn),(265,vE),(271,Do),(272,vF),(278,Dp),(279,vG),(285,Dq),(286,vH),(292,Ds),(293,vI),(306,Dt),(307,Du),(327,Dv),(328,vJ),(348,Dw),(349,Dy),(364,vK),(370,Dz),(371,vL),(377,DA),(378,vM),(384,DB),(385,vN),(391,DC),(392,vO),(398,DD),(399,vP),(405,DE),(406,vQ),(419,DF),(420,vR),(426,DH),(427,vS),(468,DI),(469,DJ),(475,DK),(476,vT),(524,DL),(525,vU),(540,DM P),(541,DN),(551,DO),(552,vV),(563,DP),(564,vW),(570,DQ),(571,vX),(575,DR),(576,vY),(582,DS),(583,vZ),(587,v3),(588,v5),(589,DT),(595,DU),(596,v7),(602,DV),(603,v8),(607,DW),(608,v9),(614,DX),(615,rB),(619,v_),(620,wa)]
noncomputable def lS:List ak:= [3,29,35,36,45,46,70,71,81,87,88,94,95,96,102,103,109,110,116,117,123,124,130,131,144,145,154,155,175,176,180,181,185,186,187,188,197,203,204,213,214,224,225,231,232,238,239,245,246,250,251,264,265,271,272,278,279,285,286,292,293,306,307,327,328,348,349,364,370,371,377,378,384,385,391,392,398,399,405,406,419,420,426,427,468,469,475,476,524,525,540,541,551,552,563,564,570,571,575,576,582,583,587,588,589,595,596,602,603,607,608,614,615,619,620]
theorem DY(P:fm):lS= (K0 P).map (·.1):=by kernel_rfl
noncomputable def nk(Wq:SharedT->Thread->Option (SharedT×Thread))(ok:Thread->Bool):Nat->SharedT->Thread->Option SharedT
 | 0,_,_=>W7
 | n+1,s,t=>match through t with
  | true=>W6 s
  | false=>match ok t with
   | false=>W7
   | true=>match Wq s t with
    | some (s',t')=>nk Wq ok n s' t'
    | none=>W7
theorem DZ:nk Wq ok (n+1) s t=match through t with
  | true=>W6 s
  | false=>match ok t with
   | false=>W7
   | true=>match Wq s t with
    | some (s',t')=>nk Wq ok n s' t'
    | none=>W7:=rfl
theorem D0:∀{n:Nat} {s s':SharedT} {t:Thread},
  nk (stepT (denote tb) p w) (stepOk n₀ ann) n s t=W6 s'->topRun tb p w n₀ ann n s.abs t=W6 s'.abs:=by
 intro n;induction n with
 | zero=>
  intro _ _ _ h;contradiction
 | succ n ih=>
  intro s s' t h;rw[DZ]at h;unfold topRun;cases ht:through t with
  | true=>rw[ht]at h;(injection h with zq;subst zq);rfl
  | false=>
   rw[ht]at h;cases hk:stepOk n₀ ann t with
   | false=>rw[hk]at h;contradiction
   | true=>
    rw[hk]at h;cases hs:stepT (denote tb) p w s t with
    | none=>rw[hs]at h;contradiction
    | some r=>obtain⟨SP,t₂⟩:=r;rw[hs]at h;rw[stepT_spec hs];exact ih h
noncomputable def T0(P:fm):BT:= ((jn P).objs.toList.foldl (λ a o=>(a.1.ins a.2 o,a.2+1)) (BT.nil,0)).1
noncomputable def wb(w:aQ)(os:OsState):SharedT:=⟨T0 w.params,11,(jn w.params).life, #[],boot_drawn,boot_toks,os⟩
theorem D1(w:aQ)(os:OsState):(wb w os).abs=⟨jn w.params, #[],boot_drawn,boot_toks,os⟩:=by kernel_rfl
noncomputable def q0:Program:=view pw [71]
noncomputable def jN:List ab:=pw.boundNames.filter (· != "law")
noncomputable def rC(w:aQ)(s:SharedT):=
 ((staticsOk (importedModules pw.main.body) (jn w.params) s.abs.heap && namesBound pw s.abs.heap && gensDone s.abs && laidKept (jn w.params) s.abs.heap),
  openSeen q0 jN (importedModules pw.main.body) (λ _=>true) true s.abs,
  (lS.map λ a=>(s.tree.get a).bind alive), [585,617].map (λ a=>(s.tree.get a).bind alive),s.n)
set_option maxHeartbeats 0 in
theorem D2(w:aQ)(os:OsState):(nk (stepT (denote treeTable) pw w) (stepOk 11 (W6 (.ref 6))) 4200 (wb w os) (topStub pw)).map (rC w)=
  some (W8,openGood q0 jN,(K0 w.params).map (λ p=>W6 p.2), [W6 (eM #[]),W6 (eM #[])],621):=by
 rw[Fast.te10156331382660048174,Fast.te11892475500146522536,Fast.te14364793385576792824,Fast.te6613529449190102663]
 kernel_rfl
abbrev Ld:=List ak
noncomputable abbrev wc(s:aw):List (Option Obj)×List (Option Obj)×Nat:= (lS.map s.heap.get?,([585,617]:Ld).map s.heap.get?,s.heap.objs.size)
noncomputable abbrev wg(w:aQ):List (Option Obj)×List (Option Obj)×Nat:= ((K0 w.params).map (λ p=>W6 p.2), [W6 (eM #[]),W6 (eM #[])],621)
abbrev Lo:=List Obj
theorem wi:∀(l:Ld) (r:Lo),(∀a∈l,a<n)->(l.map λ a=>(T.get a).bind alive)=r.map W6->l.map (absHeap T n life).get? =r.map W6:=by
 intro l;induction l with
 | nil=>exact λ _ _ h=>h
 | cons a l ih=>
  intro r hl h;induction r using gS with
  | nil=>contradiction
  | cons o r=>
   have h1:(T.get a).bind alive=W6 o:= (List.cons.inj h).1;refine congr (congrArg List.cons ?_) (ih r (λ b hb=>hl b (.tail _ hb)) (List.cons.inj h).2);cases g:T.get a with
   | none=>rw[g]at h1;contradiction
   | some x=>
    rw[g]at h1;rw[abs_get (hl a (.head _)) g];exact h1
theorem D3:∀a∈lS,a<621:=by decide+kernel
theorem D4:opening pw=plainProg pw.main.scope.names:=by kernel_rfl
theorem D5(s:aw):fenceModules? pw s=W6 s:=by kernel_rfl
theorem D6(w:aQ):((jn w.params).isNs ie && (#[]:Array GenState).size==0,(jn w.params).objs.size,(jn w.params).nsMap ie "__annotations__")= (W8,11,W6 (.ref 6)):=by kernel_rfl
theorem D7
  (z:(Th.heap.isNs ie && Th.gens.size==0,Th.heap.objs.size,Th.heap.nsMap ie "__annotations__")= (W8,m0,ann))
  (r:topRun treeTable p w m0 ann N Th (topStub p)=W6 s₁)
  (l:(staticsOk (importedModules p.main.body) Th.heap s₁.heap && namesBound p s₁.heap && gensDone s₁ && laidKept Th.heap s₁.heap)=W8):
  topFrom treeTable p w N Th=W6 s₁:=by
 obtain⟨z1,z2,z3⟩:_/\_/\_:=by simpa only[Prod.mk.injEq] using z
 unfold topFrom;rw[z1,z2,z3,r];show (match staticsOk (importedModules p.main.body) Th.heap s₁.heap && namesBound p s₁.heap && gensDone s₁ && laidKept Th.heap s₁.heap with | true=>_ | false=>_)=_
 rw[l]
theorem D8(e:fencedOpening treeTable p w N=W6 Th)(t:topFrom treeTable p w N Th=W6 s₁):openEnds treeTable p w N=W6 s₁:=by
 unfold openEnds;rw[e];exact t
theorem D9(h:rC w s= (a,c,d,e,f)):
  (staticsOk (importedModules pw.main.body) (jn w.params) s.abs.heap && namesBound pw s.abs.heap && gensDone s.abs && laidKept (jn w.params) s.abs.heap)=a/\
  openSeen q0 jN (importedModules pw.main.body) (λ _=>true) true s.abs=c/\(lS.map λ a=>(s.tree.get a).bind alive)=d/\([585,617].map (λ a=>(s.tree.get a).bind alive))=e/\s.n=f:=by
 unfold rC at h
 simpa only[Prod.mk.injEq] using h
theorem D_:LeftO pw q0 jN (λ _=>W8) wc wg 4200:=λ w=>by
 refine aj (ez.mp (boot_open (p:=pw) (N:=4200) D4 (by decide) D5 w)) λ Tj e e'=> ?_
 obtain⟨h,gs,d,k,os⟩:=Tj;obtain⟨rfl,rfl,rfl,rfl⟩:h=jn w.params/\gs= #[]/\d=boot_drawn/\k=boot_toks:=by simpa using e'
 refine aj (ez.mp (D2 w os)) λ s₁ r hr=> ?_;have r':=D0 r;rw[D1]at r';refine o8 (D9 hr) λ l1 l2 l3 l4 l5=> ?_;have t:=D7 (D6 w) r' l1;rw[D8 e t];refine congrArg W6 (Prod.ext l2 ?_)
 clear l1 l2 r r' t hr
 obtain⟨T,n,life,gens,drawn,toks,os'⟩:=s₁;simp only at l5 l3 l4;subst l5;refine Prod.ext ?_ (Prod.ext ?_ ?_)
 ·have q:=wi (life:=life) lS ((K0 w.params).map (·.2)) D3 (by rw[l3,List.map_map];rfl)
  rw[List.map_map]at q;exact q
 ·exact wi (life:=life) [585,617] [eM #[],eM #[]] (by intro a ha;revert a;show ∀a∈([585,617]:Ld),a<621;decide) l4
 ·exact absHeap_size _ _ _
abbrev row0:OpenRow:=Challenge.rw_sa0550_01.row
theorem Ea(s:aw):RecFacts row0.records s.heap:=recFacts_of (R:= []) (s:=s) rfl
section
open PySem.Calls
noncomputable def pb(v:az)(l:List (Code×Pos)):Bool:=match Builtin.Bytes.exported v with
 | .stack k=>match k l with
  | .pure b=>b
  | _=>W8
 | _=>W8
def ip(c:Code):Prop:=∀v p,pb v [(c,p)]=W9
def rD(l:List (Code×Pos)):Prop:=∀x∈l,ip x.1
def rE(Γ:Ctx):Prop:=ip Γ.code/\rD Γ.below
theorem pd{id:String}(h0:∀kw v p,pb v [(.builtin id ⟨[],kw⟩,p)]=W9)(h:∀x r kw v p,pb v [(.builtin id ⟨x::r,kw⟩,p)]= ((Builtin.Bytes.sameRef x v && Builtin.Bytes.decodersThatHold.contains id) || false))
  (hc:Builtin.Bytes.decodersThatHold.contains id=W9):∀a,ip (.builtin id a)
 | ⟨[],_⟩=>λ v p=>h0 _ v p
 | ⟨_::_,_⟩=>λ v p=>by rw[h,hc,Bool.and_false];rfl
theorem rF(a:Args):ip (.builtin "type.__call__" a):=pd (λ _ _ _=>by kernel_rfl) (λ _ _ _ _ _=>by kernel_rfl) (by decide+kernel) a
theorem Eb(a:Args):ip (.builtin "bytearray.__init__" a):=pd (λ _ _ _=>by kernel_rfl) (λ _ _ _ _ _=>by kernel_rfl) (by decide+kernel) a
theorem Ec(a:Args):ip (.builtin "bytearray.append" a):=pd (λ _ _ _=>by kernel_rfl) (λ _ _ _ _ _=>by kernel_rfl) (by decide+kernel) a
theorem Ed(a:Args):ip (.builtin "claim.caller" a):=pd (λ _ _ _=>by kernel_rfl) (λ _ _ _ _ _=>by kernel_rfl) (by decide+kernel) a
abbrev Tv:=az->aw->Prop
def ai{α:Type}(M:Model)(A:dj)(t:Sem α)(Q:α->aw->Prop)(E:Tv)(s:aw):Prop:=
 ∀Γ p,Γ.In A->rE Γ->Sem.wp M Γ t (λ a _ s'=>Q a s') (λ e _ s'=>E e s') p s
def cf(M:Model)(A:dj)(c:Code)(R:Result->aw->Prop)(s:aw):Prop:=
 ∀Γ p,Γ.code=c->Γ.Below A->rD Γ.below->wpCode M Γ R p s
section
variable{α β:Type}{M:Model}{A:dj}{E:Tv}{s:aw}{R:Result->aw->Prop}
theorem toG(h:aC M A t Q E s):ai M A t Q E s:=λ Γ p TO _=>h Γ p TO
theorem aT(h:Q a s):ai M A (pure a) Q E s:=toG (bW h)
theorem aK(h:ai M A t Q E s)(hQ:∀a s,Q a s->Q' a s)(hE:∀e s,E e s->E' e s):ai M A t Q' E' s:=
 λ Γ p TO g=>Sem.wp_mono M Γ t (λ a _ s=>hQ a s) (λ e _ s=>hE e s) p s (h Γ p TO g)
theorem aA(h:ai M A m (λ a s'=>ai M A (f a) Q E s') E s):ai M A (m >>=f) Q E s:=λ Γ p TO g=>by
 rw[Sem.wp_bind'];exact Sem.wp_mono M Γ m (λ a p' s' h'=>h' Γ p' TO g) (λ _ _ _ h'=>h') p s (h Γ p TO g)
theorem bX(h:aC M A m (λ a s'=>ai M A (f a) Q E s') E s):ai M A (m >>=f) Q E s:=aA (toG h)
theorem nq(h:ai M A m Q (λ e s'=>ai M A (k e) (λ _ s''=>E e s'') E s') s):ai M A (m.onRaise k) Q E s:=λ Γ p TO g=>by
 rw[Sem.wp_onRaise];exact Sem.wp_mono M Γ m (λ _ _ _ h'=>h') (λ e p' s' h'=>h' Γ p' TO g) p s (h Γ p TO g)
theorem rG{m:Sem α}{Q:Except az α->aw->Prop}(h:ai M A m (λ a=>Q (.ok a)) (λ e=>Q (.error e)) s):ai M A m.attempt Q E s:=λ Γ p TO g=>by rw[Sem.wp_attempt];exact h Γ p TO g
theorem cV(h:ai M A m Q E s):ai M A (fR vs m) Q E s:=λ Γ p TO g=>by rw[Sem.wp_holding];exact h Γ p TO g
theorem rH(h:ai M A m Q E s):ai M A (operate vs m) Q E s:=λ Γ p TO g=>by rw[Sem.wp_operate];exact h Γ p TO g
theorem Ee(h:ai M A (storeName env x v) Q E s):ai M A (bindName env x v) Q E s:=λ Γ p TO g=>by rw[Sem.wp_bindName];exact h Γ p TO g
theorem rI[Decidable c](hc:c)(h:ai M A a Q E s):ai M A (if c then a else b) Q E s:=by rw[if_pos hc];exact h
theorem eH[Decidable c](hc: ¬ c)(h:ai M A b Q E s):ai M A (if c then a else b) Q E s:=by rw[if_neg hc];exact h
theorem lT(e:t=pure a)(h:Q a s):ai M A t Q E s:=by rw[e];exact aT h
theorem b9(h:ai M A (f ()) Q E s):ai M A (standAt pos >>=f) Q E s:=bX (wpAny_standAt h)
theorem wj(h:ai M A (f ()) Q E s):ai M A (point >>=f) Q E s:=bX (wpAny_point h)
theorem wm(h:ai M A (f ()) Q E s):ai M A (release vs ks >>=f) Q E s:=bX (wpAny_release' h)
theorem wo(ho:s.heap.get? a=W6 o)(h:ai M A (k o) Q E s):ai M A (.load a p k) Q E s:=λ Γ q TO g=>⟨o,ho,h Γ q TO g⟩
theorem iI(h:cf M A c R s)(hR:∀r s,R r s->R' r s):cf M A c R' s:=λ Γ p hc TO g=>wpCode_mono hR (h Γ p hc TO g)
theorem wq(g:rE Γ):rD ((Γ.code,p)::Γ.below):=λ x hx=>by
 rcases bR.mp hx with rfl | hx
 ·exact g.1
 ·exact g.2 x hx
theorem wt(hc:cf M (A.mark h) c (λ r s'=>match r with | .ok f=>Q f s' | .error e=>E e s') s)(WO:h≠W6 byPass:=by intro x;cases x):ai M A (run c h) Q E s:=
 λ Γ p TO g=>by rw[Sem.wp_run];exact hc _ p rfl (TO.enter c h p WO) (wq g)
theorem Ef(hc:cf M A c (λ r s'=>match r with | .ok (.ret v)=>Q v s' | .ok _=>False | .error e=>E e s') s):ai M A (runValue c) Q E s:=
 λ Γ p TO g=>by rw[Sem.wp_runValue];exact hc _ p rfl (TO.enter c W7 p (by intro x;injection x)) (wq g)
theorem kF
  (hc:cf M A (.call f ⟨pos,kw⟩) (λ r s'=>match r with | .ok (.ret v)=>Q v s' | .ok _=>False | .error e=>E e s') s):ai M A (call f pos kw) Q E s:=Ef hc
theorem gz(hd:ip c)
  (h:ai M (A.under c) (M.den c) (λ fin s'=>match fin with | .done f=>R (.ok f) s' | .again c'=>c'.quiet=W8/\cf M A c' R s') (λ e s'=>R (.error e) s') s):cf M A c R s:=λ Γ p hc TO g=>by
 rw[wpCode_iff_wp,hc];refine Sem.wp_mono M Γ _ (λ fin p' s' h'=> ?_) (λ _ _ _ h'=>h') p s (h Γ p (hc ▸ TO.in) ⟨by rw[hc];exact hd,g⟩)
 cases fin with
 | done f=>exact h'
 | again c'=>exact⟨h'.1,h'.2 (Γ.goto c') p' rfl (TO.goto c') g⟩
theorem rJ(hd:ip c)(hq:c.quiet=W8)(I:Nat->aw->Prop)
  (turn:∀n s,I n s->ai M (A.under c) (M.den c) (λ fin s'=>match fin with
   | .done f=>R (.ok f) s'
   | .again c'=>(c'=c/\∃m,m<n/\I m s')∨(c'.quiet=W8/\cf M A c' R s')) (λ e s'=>R (.error e) s') s):
  ∀(n:Nat) (s:aw),I n s->cf M A c R s:=by
 intro n;induction n using Nat.strongRecOn with
 | ind n ih=>
  intro s h;refine gz hd (aK (turn n s h) (λ fin s' hf=> ?_) λ _ _ h'=>h');cases fin with
  | done f=>exact hf
  | again c'=>
   rcases hf with⟨rfl,m,hm,hI⟩ | hf
   ·exact⟨hq,ih m hm s' hI⟩
   ·exact hf
theorem kH{m:Sem α}{k:az->Sem Unit}{Q:α->aw->Prop}(hk:∀x s',E x s'->aC M A (k x) (λ _ s''=>E x s'') E s')(h:ai M A m Q (eA M A env E) s):ai M A (m.onRaise λ x=>do jb x env;k x) Q E s:=
 nq (aK h (λ _ _ q=>q) λ x _ hx=>toG (aB (el hx (λ _ s' e=>hk x s' e) λ _ _ e=>e)))
theorem pe(hc:cf M (A.mark h) c (λ r s'=>match r with | .ok f=>Q f s' | .error e=>i_ M A env E e s') s)(WO:h≠W6 byPass:=by intro x;cases x):ai M A (runOwn c env h) Q E s:=by
 unfold runOwn;exact nq (aK (wt (E:=i_ M A env E) (iI hc λ r s' x=>by cases r <;> exact x) WO) (λ _ _ x=>x) λ e s' x=>toG x)
end
section
variable{M:Model}{A:dj}{E:Tv}{s:aw}{env:Env}
theorem wu{st:cD}{rest:List cD}{Q:Flow->aw->Prop}(h:ai M A (exec st env) (λ f s'=>match f with
  | .next=>ai M A (dM rest env) Q E s'
  | f=>Q f s') E s):ai M A (dM (st::rest) env) Q E s:=by
 rw[execs_cons];refine aA (aK h (λ f s' h'=> ?_) λ _ _ x=>x);cases f <;> first | exact h' | exact aT h'
theorem wx(h:cf M A (.whileLoop test body orelse env) (λ r s'=>match r with | .ok f=>Q f s' | .error e=>i_ M A env E e s') s):ai M A (exec (.While test body orelse pos) env) Q E s:=by
 rw[exec_While];exact b9 (pe h)
theorem Eg(h:ai M A (aZ iter env) (λ x s₁=>ai M A (pyIter x) (λ it SP=>cf M A (.forLoop target it body orelse env) (λ r s'=>match r with | .ok f=>Q f s' | .error e=>i_ M A env E e s') SP) E s₁) E s)
  (hs:∀x,foldedSetIterable iter env x=pure x:=by intro _;rfl):ai M A (exec (.For target iter body orelse pos) env) Q E s:=by
 rw[exec_For];refine b9 (aA (aK h (λ x s₁ h₁=> ?_) λ _ _ x=>x));exact aA (lT (hs x) (b9 (aA (cV (aK h₁ (λ it SP h₂=>pe h₂) λ _ _ x=>x)))))
theorem Eh(h:ai M A (fh test env (aZ test env)) (λ b SP=>if b=W8 then ai M A (dM body env) Q E SP else ai M A (dM orelse env) Q E SP) E s):ai M A (exec (.If test body orelse pos) env) Q E s:=by
 rw[exec_If];refine b9 (aA (aK h (λ b SP h₂=> ?_) λ _ _ x=>x));cases b <;> exact h₂
theorem Ei(h:ai M A (aZ e env) (λ v=>Q (.ret v)) E s):ai M A (exec (.Return (W6 e) pos) env) Q E s:=by
 rw[exec_Return_some];exact b9 (aA (aK h (λ v s' h'=>aT h') λ _ _ x=>x))
theorem Ej(h:ai M A (aZ l env) (λ a s₁=>ai M A (aZ r env) (λ b SP=>ai M A (binaryOp op a b) Q E SP) E s₁) E s):ai M A (aZ (.BinOp l op r pos) env) Q E s:=by
 rw[eval_BinOp];refine aA (aK h (λ a s₁ h₁=>aA (cV (aK h₁ (λ b SP h₂=> ?_) λ _ _ x=>x))) λ _ _ x=>x);exact b9 (rH h₂)
theorem Ek(h:ai M A (spliced ((W9,x)::rest)) (λ vs s'=>Q ⟨vs, []⟩ s') E s):ai M A (evalArgs f W8 ((W9,x)::rest) []) Q E s:=by
 unfold evalArgs;show ai M A (spliced ((W9,x)::rest) >>=_) Q E s;exact aA (aK h (λ vs s' h'=>cV (aA (aT (aA (aT (aT h')))))) λ _ _ x=>x)
abbrev Lv:=List az
theorem El{P:bS->Prop}{first:Lv}{Q:Tv}{args:List (Bool×Sem az)}{keywords:List (Option ab×Sem az)}(V6:(args.any (·.1) || keywords.any (·.1.isNone))=W9)
  (hk:∀h,P h->∃k,(k=Keeper.frame∨k=Keeper.machine∨k=Keeper.boundFrame)/\Looks M h (keeperOf f) k)
  (h:ai M A (evalArgs f W8 args keywords) (λ a s₁=>P s₁.heap/\ai M A (call f (first++a.pos) a.kw) Q E s₁) E s):ai M A (callWith pos f first args keywords) Q E s:=by
 unfold callWith;refine aA (cV (aK h (λ a s₁ h₁=>b9 ?_) λ _ _ x=>x));refine aj (hk _ h₁.1) λ k UR L=> ?_;rw[V6];refine bX (L.here ?_);have tail:∀{t:Sem az},ai M A t Q E s₁->ai M A (t >>=λ r=>fR [r] point >>=λ _=>pure r) Q E s₁:=
  λ ht=>aA (aK ht (λ r SP hr=>toG (aB (f9 (wpAny_point (bW hr))))) λ _ _ x=>x)
 have keep:∀{vs:Lv} {t:Sem az},ai M A t Q E s₁->ai M A (t.keep vs) Q E s₁:=λ {vs t} ht Γ p TO g=>by rw[Sem.wp_keep];exact ht Γ p TO g
 have marked (mk:az):ai M A (callMarked mk f (first++a.pos) a.kw) Q E s₁:=by unfold callMarked;exact keep h₁.2
 rcases UR with rfl | rfl | rfl <;> dsimp only <;> first | exact tail h₁.2 | (split <;> first | exact tail h₁.2 | exact tail (marked _))
theorem Em(h:ai M A whole (λ v s₁=>ai M A (truthy v) Q E s₁) E s)
  (he:fh e env whole= (do let v ←whole;standAt e.pos;fR [v] (truthy v)):=by rfl):ai M A (fh e env whole) Q E s:=by
 rw[he];exact aA (aK h (λ v s₁ h₁=>b9 (cV h₁)) λ _ _ x=>x)
theorem En(h:ai M A (fh x env (aZ x env)) (λ b s₁=>Q (!b) s₁) E s):ai M A (fh (.UnaryOp .Not x pos) env whole) Q E s:=by
 rw[arm_isTrue_UnaryOp];exact aA (aK h (λ b s₁ h₁=>aT h₁) λ _ _ x=>x)
theorem Eo(h:ai M A (fh x env (aZ x env)) (λ c s'=>if c=W8 then ai M A (fh (.BoolOp .And rest pos) env whole) Q E s' else Q W9 s') E s):
  ai M A (fh (.BoolOp .And (x::rest) pos) env whole) Q E s:=by
 refine aA (m:=fh x env (aZ x env)) (aK h (λ c s' h'=> ?_) λ _ _ x=>x);cases c with
 | false=>exact aT (a:=W9) h'
 | true=>exact h'
theorem Ep(h:ai M A (fh x env (aZ x env)) (λ c s'=>if c=W8 then Q W8 s' else ai M A (fh (.BoolOp .Or rest pos) env whole) Q E s') E s):
  ai M A (fh (.BoolOp .Or (x::rest) pos) env whole) Q E s:=by
 refine aA (m:=fh x env (aZ x env)) (aK h (λ c s' h'=> ?_) λ _ _ x=>x);cases c with
 | false=>exact h'
 | true=>exact aT (a:=W8) h'
theorem Er(h:ai M A (aZ x env) (λ v s₁=>ai M A (unaryOp op v) Q E s₁) E s):ai M A (aZ (.UnaryOp op x pos) env) Q E s:=by
 rw[arm_eval_UnaryOp];exact aA (aK h (λ v s₁ h₁=>b9 (cV h₁)) λ _ _ x=>x)
theorem Es(h:ai M A r (λ b s₁=>ai M A (jo op a b) (λ c SP=>ai M A (truthy c)
   (λ t s₃=>if t=W8 then ai M A (testChain pos b (Ub::ops) (r'::rs)) Q E s₃ else Q W9 s₃) E SP) E s₁) E s):ai M A (testChain pos a (op::Ub::ops) (r::r'::rs)) Q E s:=by
 show ai M A (fR [a] r >>=λ rv=>standAt pos >>=λ _=>fR [a,rv] (jo op a rv) >>=λ c=>release [a,rv] [c] >>=λ _=>fR [c,rv] (truthy c) >>=λ t=>if t=W8 then testChain pos rv (Ub::ops) (r'::rs) else pure W9) Q E s
 refine aA (cV (aK h (λ b s₁ h₁=>b9 (aA (cV (aK h₁ (λ c SP h₂=>wm (aA (cV (aK h₂ (λ t s₃ S_=> ?_) λ _ _ x=>x)))) λ _ _ x=>x)))) λ _ _ x=>x));cases t with
 | false=>exact aT S_
 | true=>exact S_
theorem wz(h:ai M A r (λ b s₁=>ai M A (jo op a b) (λ c SP=>ai M A (truthy c) Q E SP) E s₁) E s):ai M A (testChain pos a [op] [r]) Q E s:=by
 show ai M A (fR [a] r >>=λ rv=>standAt pos >>=λ _=>operate [a,rv] (jo op a rv) >>=λ c=>fR [c] (truthy c)) Q E s;exact aA (cV (aK h (λ b s₁ h₁=>b9 (aA (rH (aK h₁ (λ c SP h₂=>cV h₂) λ _ _ x=>x)))) λ _ _ x=>x))
theorem Et(h:ai M A r (λ b s₁=>ai M A (jo op a b) (λ c SP=>ai M A (truthy c)
   (λ t s₃=>if t=W8 then ai M A (compareChain pos b (Ub::ops) (r'::rs)) Q E s₃ else Q c s₃) E SP) E s₁) E s):ai M A (compareChain pos a (op::Ub::ops) (r::r'::rs)) Q E s:=by
 show ai M A (fR [a] r >>=λ rv=>standAt pos >>=λ _=>fR [a,rv] (jo op a rv) >>=λ c=>release [a,rv] [c] >>=λ _=>fR [c,rv] (truthy c) >>=λ t=>if t=W8 then compareChain pos rv (Ub::ops) (r'::rs) else pure c) Q E s
 refine aA (cV (aK h (λ b s₁ h₁=>b9 (aA (cV (aK h₁ (λ c SP h₂=>wm (aA (cV (aK h₂ (λ t s₃ S_=> ?_) λ _ _ x=>x)))) λ _ _ x=>x)))) λ _ _ x=>x));cases t with
 | false=>exact aT S_
 | true=>exact S_
theorem wA(h:ai M A r (λ b s₁=>ai M A (jo op a b) Q E s₁) E s):ai M A (compareChain pos a [op] [r]) Q E s:=by
 show ai M A (fR [a] r >>=λ rv=>standAt pos >>=λ _=>operate [a,rv] (jo op a rv)) Q E s;exact aA (cV (aK h (λ b s₁ h₁=>b9 (rH h₁)) λ _ _ x=>x))
theorem Eu(h:ai M A (aZ Vp env) (λ v s₁=>ai M A (truthy v) (λ c SP=>if c=W8 then Q v SP else ai M A (aZ (.BoolOp .Or (Vb::rest) pos) env) Q E SP) E s₁) E s):
  ai M A (aZ (.BoolOp .Or (Vp::Vb::rest) pos) env) Q E s:=by
 refine aA (m:=aZ Vp env) (aK h (λ v s₁ h₁=>b9 (aA (m:=fR [v] (truthy v)) (cV (aK h₁ (λ c SP h₂=> ?_) λ _ _ x=>x)))) λ _ _ x=>x);cases c with
 | false=>exact h₂
 | true=>exact aT (a:=v) h₂
theorem Ew(h:ai M A (aZ Vp env) (λ v s₁=>ai M A (truthy v) (λ c SP=>if c=W8 then ai M A (aZ (.BoolOp .And (Vb::rest) pos) env) Q E SP else Q v SP) E s₁) E s):
  ai M A (aZ (.BoolOp .And (Vp::Vb::rest) pos) env) Q E s:=by
 refine aA (m:=aZ Vp env) (aK h (λ v s₁ h₁=>b9 (aA (m:=fR [v] (truthy v)) (cV (aK h₁ (λ c SP h₂=> ?_) λ _ _ x=>x)))) λ _ _ x=>x);cases c with
 | false=>exact aT (a:=v) h₂
 | true=>exact h₂
theorem Ex(h:ai M A (fh test env (aZ test env)) (λ b s₁=>if b=W8 then ai M A (aZ body env) Q E s₁ else ai M A (aZ orelse env) Q E s₁) E s):ai M A (aZ (.IfExp test body orelse pos) env) Q E s:=by
 rw[arm_eval_IfExp];refine aA (aK h (λ b s₁ h₁=> ?_) λ _ _ x=>x);cases b <;> exact h₁
theorem Ey{lower upper step:Option PySem.Expr}{Q:Tv}(h:ai M A (evalPart lower env) (λ l s₁=>ai M A (evalPart upper env) (λ u SP=>ai M A (evalPart step env) (λ st s₃=>
   Q (.ref s₃.heap.objs.size) { s₃ with heap:=s₃.heap.push { cls:= .type "slice",data:= .fields #[l,u,st] } }) E SP) E s₁) E s):ai M A (aZ (.Slice lower upper step p) env) Q E s:=by
 rw[arm_eval_Slice];refine aA (aK h (λ l s₁ h₁=>aA (cV (aK h₁ (λ u SP h₂=>aA (cV (aK h₂ (λ st s₃ S_=> ?_) λ _ _ x=>x))) λ _ _ x=>x))) λ _ _ x=>x);exact toG (oX S_)
theorem wB(h:ai M A (aZ value env) (λ o s₁=>ai M A (aZ slice env) (λ i SP=>ai M A (subscriptTail value slice o i) Q E SP) E s₁) E s):ai M A (aZ (.Subscript value slice pos) env) Q E s:=by
 rw[eval_Subscript];exact aA (aK h (λ o s₁ h₁=>aA (cV (aK h₁ (λ i SP h₂=>b9 h₂) λ _ _ x=>x))) λ _ _ x=>x)
theorem Ez(ht:backTo pos (fO args env)=trees)
  (h:ai M A (aZ (.Name x p) env) (λ f s₁=>ai M A (callWith pos f [] trees []) Q E s₁) E s):ai M A (aZ (.Call (.Name x p) args [] pos) env) Q E s:=by
 subst ht;exact aA h
theorem EA(h:ai M A x (λ v s₁=>ai M A (spliced rest) (λ vs SP=>Q (v::vs) SP) E s₁) E s):ai M A (spliced ((W9,x)::rest)) Q E s:=by
 rw[spliced];refine aA (aK h (λ v s₁ h₁=> ?_) λ _ _ x=>x);exact aA (aT (aA (cV (aK h₁ (λ vs SP h₂=>aT h₂) λ _ _ x=>x))))
theorem EB(h:ai M A (aZ value env) (λ v s₁=>ai M A (storeName env x v) (λ _=>Q .next) E s₁) E s)(hs:swapsWith value (W6 (.Name x pos')) pos.line env=pure W9:=by rfl):ai M A (exec (.Assign [.Name x pos'] value pos) env) Q E s:=by
 rw[exec_Assign_Name env x pos' value pos hs];exact b9 (aA (aK h (λ v s₁ h₁=>b9 (aA (Ee (aK h₁ (λ _ _ y=>aT y) λ _ _ x=>x)))) λ _ _ x=>x))
theorem EC(h:ai M A (aZ value env) (λ v s₁=>ai M A (aZ o env) (λ ov SP=>ai M A (setAttr ov attr v) (λ _=>Q .next) E SP) E s₁) E s)
  (hs:swapsWith value (W6 (.Attribute o attr pos')) pos.line env=pure W9:=by rfl):ai M A (exec (.Assign [.Attribute o attr pos'] value pos) env) Q E s:=λ Γ p TO g=>by
 rw[plainObj_exec_Assign_Attribute o attr pos' value pos hs];refine b9 (aA (aK h (λ v s₁ h₁=> ?_) λ _ _ x=>x)) Γ p TO g;rw[assign_Attribute];refine aA (aA (cV (aK h₁ (λ ov SP h₂=> ?_) λ _ _ x=>x)));refine b9 (aA (cV (aK h₂ (λ _ TB TM=> ?_) λ _ _ x=>x)));exact toG (wpAny_release (aT TM))
theorem ED(h:ai M A (aZ value env) (λ v s₁=>ai M A (aZ o env) (λ ov SP=>ai M A (aZ i env) (λ iv s₃=>ai M A (setItem ov iv v) (λ _=>Q .next) E s₃) E SP) E s₁) E s)
  (hs:swapsWith value (W6 (.Subscript o i pos')) pos.line env=pure W9:=by rfl):ai M A (exec (.Assign [.Subscript o i pos'] value pos) env) Q E s:=λ Γ p TO g=>by
 rw[exec_Assign_Subscript o i pos' value pos hs];refine b9 (aA (aK h (λ v s₁ h₁=> ?_) λ _ _ x=>x)) Γ p TO g;rw[assign_Subscript];refine aA (aA (cV (aK h₁ (λ ov SP h₂=> ?_) λ _ _ x=>x)));refine aA (cV (aK h₂ (λ iv s₃ S_=> ?_) λ _ _ x=>x));refine b9 (aA (cV (aK S_ (λ _ TB TM=> ?_) λ _ _ x=>x)));exact toG (wpAny_release (aT TM))
theorem EE(h:ai M A (aZ value env) (λ v s₁=>ai M A (assign (.Tuple elts k tpos) env v) (λ _=>Q .next) E s₁) E s)
  (hs:swapsWithSole [.Tuple elts k tpos] value pos.line env=pure W9:=by rfl) (hw:swappedStores [.Tuple elts k tpos] value env=pure W7:=by rfl):ai M A (exec (.Assign [.Tuple elts k tpos] value pos) env) Q E s:=by
 rw[exec_Assign];refine b9 ?_;rw[hs];refine aA (aT (eH (by decide) (aA (aK h (λ v s₁ h₁=> ?_) λ _ _ x=>x))))
 rw[hw];exact aA (aT (aA (m:=assignAll v [assign (.Tuple elts k tpos) env]) (aK h₁ (λ _ _ x=>aT (a:=Flow.next) x) λ _ _ x=>x)))
theorem EF(h:ai M A (aZ value env) (λ v s₁=>ai M A (unpackItems v names.length W7) (λ items SP=>ai M A (assignInOrder (names.reverse.map λ n=>bindName env n) items.reverse) (λ _=>Q .next) E SP) E s₁) E s)
  (hs:swapsWithSole [.Tuple elts k tpos] value pos.line env=pure W9:=by rfl) (hw:swappedStores [.Tuple elts k tpos] value env=pure (W6 names):=by rfl):ai M A (exec (.Assign [.Tuple elts k tpos] value pos) env) Q E s:=by
 rw[exec_Assign];refine b9 ?_;rw[hs];refine aA (aT (eH (by decide) (aA (aK h (λ v s₁ h₁=> ?_) λ _ _ x=>x))))
 rw[hw];refine aA (aT (bX (m:=rule "assign.swapped-stores") (wpAny_rule ?_)));exact aA (m:=unpackItems v names.length W7) (aK h₁ (λ items SP h₂=>aA (aK h₂ (λ _ _ x=>aT (a:=Flow.next) x) λ _ _ x=>x)) λ _ _ x=>x)
end
end
section
open PySem.Calls
section
variable{prog:Program}{w:aQ}{A:dj}{E:Tv}{s:aw}{R:Result->aw->Prop}{env:Env}
@[reducible] def wC(I:Nat->aw->Prop)(R:Result->aw->Prop)(n:Nat)(f:Flow)(s₃:aw):Prop:=match f with
 | .next=>∃m,m<n/\I m s₃
 | .cont=>∃m,m<n/\I m s₃
 | .brk=>R (.ok .next) s₃
 | .ret v=>R (.ok (.ret v)) s₃
theorem wD(I:Nat->aw->Prop)
  (turn:∀n s,I n s->ai (ag prog w) A (fh test env (aZ test env)) (λ b SP=>
    if b=W8 then ai (ag prog w) A (dM body env) (wC I R n) (eA (ag prog w) A env λ e s'=>R (.error e) s') SP
    else ai (ag prog w) A (dM orelse env) (λ f s₃=>R (.ok f) s₃) (eA (ag prog w) A env λ e s'=>R (.error e) s') SP)
    (eA (ag prog w) A env λ e s'=>R (.error e) s') s)
  (n:Nat) (h:I n s):cf (ag prog w) A (.whileLoop test body orelse env) R s:=by
 refine rJ (λ _ _=>rfl) rfl I (λ n s hI=> ?_) n s h;show ai _ A ((whileTurn test body orelse env).onRaise (λ x=>do jb x env;theTreesLotGoes x)) _ _ s
 refine kH (λ x s' e=>oU e) ?_;unfold whileTurn;refine aA (aK (turn n s hI) (λ b SP h₂=> ?_) λ _ _ h'=>h');induction b with
 | false=>exact eH (by decide) (aA (aK h₂ (λ f s₃ S_=>aT S_) λ _ _ h'=>h'))
 | true=>
  refine rI rfl (aA (aK h₂ (λ f s₃ S_=> ?_) λ _ _ h'=>h'));induction f with
  | next=>exact aT (.inl ⟨rfl,S_⟩)
  | cont=>exact aT (.inl ⟨rfl,S_⟩)
  | brk=>exact aT S_
  | ret v=>exact aT S_
theorem EG(h:ai (ag prog w) A (dM stmts env) (λ f s'=>R (.ok f) s') (eA (ag prog w) A env λ e s'=>R (.error e) s') s):cf (ag prog w) A (.block stmts env) R s:=by
 refine gz (λ _ _=>rfl) ?_;show ai _ _ (do return Fin.done (←(dM stmts env).onRaise (λ x=>do jb x env;theTreesLotGoes x))) _ _ s
 exact aA (kH (λ x s' e=>oU e) (aK h (λ f s' h'=>aT h') λ _ _ h'=>h'))
theorem EH(I:Nat->aw->Prop)
  (turn:∀n s,I n s->ai (ag prog w) A (pyNext it) (λ r s₁=>match r with
   | none=>ai (ag prog w) A (dM orelse env) (λ f s₃=>R (.ok f) s₃) (eA (ag prog w) A env λ e s'=>R (.error e) s') s₁
   | some v=>ai (ag prog w) A (assign target env v) (λ _ SP=>ai (ag prog w) A (dM body env) (wC I R n) (eA (ag prog w) A env λ e s'=>R (.error e) s') SP) (eA (ag prog w) A env λ e s'=>R (.error e) s') s₁) (eA (ag prog w) A env λ e s'=>R (.error e) s') s)
  (n:Nat) (h:I n s) (ht:∀v,letOwnedTupleGo target it v=pure ():=by intro _;rfl):cf (ag prog w) A (.forLoop target it body orelse env) R s:=by
 refine rJ (λ _ _=>rfl) rfl I (λ n s hI=> ?_) n s h;show ai _ _ ((forTurn target it body orelse env).onRaise (λ x=>do jb x env;theTreesLotGoes x)) _ _ s
 refine kH (λ x s' e=>oU e) ?_;unfold forTurn;refine b9 (aA (nq (aK (turn n s hI) (λ r s₁ h₁=> ?_) λ _ _ h'=>toG (wpAny_standAt h'))));induction r with
 | none=>exact aT (.inr ⟨rfl,EG h₁⟩)
 | some v=>
  refine aA (lT (ht v) ?_);refine aA (aK h₁ (λ _ SP h₂=>aA (aK h₂ (λ f s₃ S_=> ?_) λ _ _ h'=>h')) λ _ _ h'=>h');induction f with
  | next=>exact aT (.inl ⟨rfl,S_⟩)
  | cont=>exact aT (.inl ⟨rfl,S_⟩)
  | brk=>exact aT S_
  | ret v=>exact aT S_
theorem wF(h:ai (ag prog w) (A.deeper env) (dM body env) (λ f s'=>R (.ok (.ret (match f with | .ret v=>v | _=> .none))) s')
   (λ e s'=>aC (ag prog w) (A.deeper env) (leaving env e) (λ _ s''=>R (.error e) s'') (λ e' s''=>R (.error e') s'') s') s):cf (ag prog w) A (.func body env) R s:=by
 refine gz (λ _ _=>rfl) ?_;show ai _ (A.deeper env) (do point;match ←(dM body env).onRaise (leaving env) with | .ret v=>ret v | _=>ret .none) _ _ s
 refine wj (aA (nq (aK h (λ f s' h'=> ?_) λ _ _ h'=>toG h')));induction f <;> exact aT h'
theorem EI(h:ai (ag prog w) (A.deeper env) (aZ e env) (λ v s'=>R (.ok (.ret v)) s')
   (λ e' s'=>aC (ag prog w) (A.deeper env) (leaving env e') (λ _ s''=>R (.error e') s'') (λ e'' s''=>R (.error e'') s'') s') s):cf (ag prog w) A (.expr e env) R s:=by
 refine gz (λ _ _=>rfl) ?_;show ai _ (A.deeper env) (do point;ret (←(aZ e env).onRaise (leaving env))) _ _ s
 exact wj (aA (nq (aK h (λ v s' h'=>aT h') λ _ _ h'=>toG h')))
theorem rK{args:Args}{fd:FuncData}{code:Env->Code}(UD:A.depth<recursionLimit)(ho:s.heap.get? a=W6 o)(hd':o.data= .func fd)(Wa:fd.scope.isCoroutine=W9)(UT:fd.scope.isGenerator=W9)
  (TR:(∃body,fd.body= .stmts body/\code=Code.func body)∨∃body,fd.body= .expr body/\code=Code.expr body) (Wc:s.heap.CodeRec fd.code fd.qualname)
  (h:aC (ag prog w) A.in1 (bindArgs fd args) (λ binds s₁=>
   aC (ag prog w) A.in1 (newFunctionEnv fd.scope fd.globals fd.closure binds (fd.qualname++ ".<locals>.") (W6 a) fd.code W7 fd.builtins)
    (λ env SP=>SP.heap.NoLimit/\cf (ag prog w) A (code env) R SP) (λ e s'=>R (.error e) s') s₁) (λ e s'=>R (.error e) s') s):
  cf (ag prog w) A (.call (.ref a) args) R s:=by
 refine gz (λ _ _=>rfl) (toG ?_);show aC _ A.in1 (callAny (.ref a) args) _ _ s;refine aB (m:=load a) (wpAny_load ho ?_);revert Wc;refine rq λ c oc vs tq hc hoc hdc hq=> ?_;rcases TR with⟨body,Uc,rfl⟩ | ⟨body,Uc,rfl⟩
 all_goals
  rw[hd'];dsimp only[callFunction];rw[Wa,UT,Uc,hc];rw[hc]at h;refine aB (m:=field (.ref c) 1) (ig hoc hdc hq (aB (bW ?_)));exact aB (el h (λ binds s₁ h₁=>aB (el h₁ (λ env SP h₂=>aB (wpAny_enterFrame h₂.1 UD (bW (ik rfl h₂.2)))) λ _ _ h'=>h')) λ _ _ h'=>h')
theorem EJ{fd:FuncData}{body:List cD}{args:Args}{binds:List (ab×az)}
  (UD:A.depth<recursionLimit) (ho:s.heap.get? a=W6 o) (UI:o.data= .func fd) (V':s.heap.NoLimit) (Wc:s.heap.CodeRec fd.code fd.qualname)
  (Uc:fd.body= .stmts body) (T6:BindsTo s fd args binds) (UK:∀x∈fd.scope.names,x.2≠ .cell) (V_:∀x∈binds,fd.scope.names.lookup x.1=W6 .local)
  (h:∀h₀,h₀.Ns s.heap.objs.size (λ x=>binds.reverse.lookup x)->(∀b o,s.heap.get? b=W6 o->h₀.get? b=W6 o)->
   ai (ag prog w) (A.deeper (callEnv fd s.heap.objs.size a)) (dM body (callEnv fd s.heap.objs.size a)) (λ f s'=>R (.ok (.ret (match f with | .ret v=>v | _=> .none))) s')
    (λ e s'=>aC (ag prog w) (A.deeper (callEnv fd s.heap.objs.size a)) (leaving (callEnv fd s.heap.objs.size a) e) (λ _ s''=>R (.error e) s'') (λ e' s''=>R (.error e') s'') s')
    { s with heap:=h₀,toks:=s.toks+binds.length })
  (Wa:fd.scope.isCoroutine=W9:=by rfl) (UT:fd.scope.isGenerator=W9:=by rfl) (hk:fd.scope.kind= .function:=by rfl):
  cf (ag prog w) A (.call (.ref a) args) R s:=by
 refine rK UD ho UI Wa UT (.inl ⟨body,Uc,rfl⟩) Wc (T6 _ _ _ _ ?_);refine wpAny_newFunctionEnv UK V_ (λ h₀ hns₀ hsb₀=>⟨V'.fresh _ hsb₀,wF (h h₀ hns₀ λ b o e=> ?_)⟩) hk;exact hsb₀.extBut b o (fj (ed e)) (dt _ e)
theorem EK
  (UD:A.depth<recursionLimit) (ho:s.heap.get? a=W6 o) (UI:o.data= .func fd) (V':s.heap.NoLimit) (Wc:s.heap.CodeRec fd.code fd.qualname)
  (Uc:fd.body= .stmts body) (T6:bindArgs fd ⟨vals, []⟩=pure binds) (hclo:fd.closure= [])
  (UG:∀x∈binds,fd.scope.names.lookup x.1=W6 .local∨(fd.scope.names.lookup x.1=W6 .cell/\((cellsFrom (s.heap.objs.size+1) fd.scope.names []).lookup x.1).isSome=W8))
  (h:∀s₁,InCallC s (callEnvC fd s.heap.objs.size a).locals (bindL (callEnvC fd s.heap.objs.size a).kindOf binds λ _=>W7) (callEnvC fd s.heap.objs.size a).cells
    (bindC (callEnvC fd s.heap.objs.size a).kindOf binds λ _=>W7) s₁->
   ai (ag prog w) (A.deeper (callEnvC fd s.heap.objs.size a)) (dM body (callEnvC fd s.heap.objs.size a)) (λ f s'=>R (.ok (.ret (match f with | .ret v=>v | _=> .none))) s')
    (λ e s'=>aC (ag prog w) (A.deeper (callEnvC fd s.heap.objs.size a)) (leaving (callEnvC fd s.heap.objs.size a) e) (λ _ s''=>R (.error e) s'') (λ e' s''=>R (.error e') s'') s') s₁)
  (Wa:fd.scope.isCoroutine=W9:=by rfl) (UT:fd.scope.isGenerator=W9:=by rfl) (hk:fd.scope.kind= .function:=by rfl):
  cf (ag prog w) A (.call (.ref a) ⟨vals, []⟩) R s:=by
 refine rK UD ho UI Wa UT (.inl ⟨body,Uc,rfl⟩) Wc ?_;rw[T6,hclo];refine bW (wpAny_newFunctionEnv_cells hk UG λ env he s' x=> ?_);subst he;exact⟨V'.keeps x.toInCall.keep,wF (h s' x)⟩
theorem EL(h:ai (ag prog w) A (aZ t env) (λ c s₁=>ai (ag prog w) A (excMatches e c) (λ b SP=>R (.ok (if b=W8 then .brk else .next)) SP) (eA (ag prog w) A env λ x SP=>R (.error x) SP) s₁)
   (eA (ag prog w) A env λ x s₁=>R (.error x) s₁) s):cf (ag prog w) A (.handlers e [.ExceptHandler (W6 t) W7 [] pos] env) R s:=by
 refine gz (λ _ _=>rfl) ?_;show ai _ A (do return Fin.done (←(handleWith e env [.ExceptHandler (W6 t) W7 [] pos]).onRaise (λ x=>do jb x env;theTreesLotGoes x))) _ _ s
 refine aA (kH (λ x s' e=>oU e) ?_);unfold handleWith;exact b9 (aA (aK h (λ c s₁ h₁=>b9 (aA (aK h₁ (λ b SP h₂=>aT (aT h₂)) λ _ _ x=>x))) λ _ _ x=>x))
theorem EM
  (h:aC (ag prog w) A (setFlight e W7) (λ _ s₁=>aC (ag prog w) A (storeName env n e) (λ _ SP=>
    ai (ag prog w) A (dM (W2::body) env) (λ f s₃=>R (.ok f) s₃)
     (λ x s₃=>aC (ag prog w) A (jb x env) (λ _ s₃'=>
      aC (ag prog w) A (do bindName env n .none;unbindBehindTheSuite env n pos)
       (λ _ TB=>aC (ag prog w) A (passOn "try.except-as" x env:Sem Flow) (λ _ _=>False) (eA (ag prog w) A env λ x s'=>R (.error x) s') TB)
       (λ y TB=>aC (ag prog w) A (setFlight x W7) (λ _ s₅=>(eA (ag prog w) A env λ x s'=>R (.error x) s') y s₅) (eA (ag prog w) A env λ x s'=>R (.error x) s') TB) s₃') (eA (ag prog w) A env λ x s'=>R (.error x) s') s₃) SP)
    (eA (ag prog w) A env λ x s'=>R (.error x) s') s₁) (eA (ag prog w) A env λ x s'=>R (.error x) s') s):
  cf (ag prog w) A (.handlers e [.ExceptHandler W7 (W6 n) (W2::body) pos] env) R s:=by
 refine gz (λ _ _=>rfl) ?_;show ai _ A (do return Fin.done (←(handleWith e env [.ExceptHandler W7 (W6 n) (W2::body) pos]).onRaise (λ x=>do jb x env;theTreesLotGoes x))) _ _ s
 refine aA (kH (λ x s' e=>oU e) ?_);unfold handleWith;refine b9 (bX (el h (λ _ s₁ h₁=> ?_) λ _ _ x=>x));refine bX (wpAny_bindName (el h₁ (λ _ SP h₂=> ?_) λ _ _ x=>x));refine aA (rG (aK h₂ (λ f s₃ S_=>aT (aT S_)) λ x s₃ S_=> ?_));refine toG (aB (el S_ (λ _ s₃' TM=> ?_) λ _ _ y=>y));refine aB (f9 (wpAny_onRaise (el TM (λ _ TB V1=> ?_) λ _ _ y=>y)));exact el V1 (λ _ _ hf=>hf.elim) λ _ _ y=>y
theorem EN
  (h:cf (ag prog w) (A.mark (W6 e)) (.handlers e [.ExceptHandler (W6 t) W7 [] pos] env) (λ r s₁=>match r with
   | .ok .brk=>cf (ag prog w) (A.mark (W6 e)) (.handlers e [.ExceptHandler W7 (W6 n) body pos] env) (λ r SP=>match r with
     | .ok f=>aC (ag prog w) A (do bindName env n .none;unbindBehindTheSuite env n pos) (λ _ s₃=>Q f s₃) E SP
     | .error x=>i_ (ag prog w) A env E x SP) s₁
   | .ok _=>ai (ag prog w) A (handleBy e env rest) Q E s₁
   | .error x=>i_ (ag prog w) A env E x s₁) s) (WO:e≠byPass):
  ai (ag prog w) A (handleBy e env (.ExceptHandler (W6 t) (W6 n) body pos::rest)) Q E s:=by
 rw[handleBy];have hnb':(W6 e:Option az)≠W6 byPass:=λ x=>WO (bQ x);refine aA (cV (pe (iI h (λ r s₁ h₁=> ?_)) hnb'));induction r with
 | error x=>exact h₁
 | ok f=>
  induction f with
  | brk=>
   refine aA (aT (eH (by decide) (aA (cV (pe (iI h₁ (λ r SP h₂=> ?_)) hnb')))))
   induction r with
   | error x=>exact h₂
   | ok f=>exact toG (aB (f9 (el h₂ (λ _ s₃ S_=>bW S_) λ _ _ x=>x)))
  | _=>exact aA (aT (rI (by decide) h₁))
theorem EO
  (h:ai (ag prog w) A (dM body env) (λ f s₁=>match f with
    | .next=>ai (ag prog w) A (dM orelse env) Q E s₁
    | f=>Q f s₁)
   (λ e s₁=>aC (ag prog w) A (jb e env) (λ _ SP=>aC (ag prog w) A (setFlight e W7) (λ _ s₃=>ai (ag prog w) A (handleBy e env (h₀::hs)) Q E s₃) E SP) E s₁) s):
  ai (ag prog w) A (exec (.Try body (h₀::hs) orelse [] pos) env) Q E s:=by
 rw[arm_exec_Try];refine b9 ?_;unfold tryStmt;refine aA (rG (aK h (λ f s₁ h₁=> ?_) λ e s₁ h₁=> ?_))
 ·induction f <;> first | exact h₁ | exact aT h₁
 ·exact bX (el h₁ (λ _ _ h₂=>bX h₂) λ _ _ x=>x)
theorem EP(h:ai (ag prog w) A (spliced (backTo pos (fO elts env))) (λ vs s₁=>vs.length<=sizeLine/\Q (.ref s₁.heap.objs.size) { s₁ with heap:=s₁.heap.push { cls:= .type "tuple",data:= .seq vs.toArray } }) E s):ai (ag prog w) A (aZ (.Tuple elts x1 pos) env) Q E s:=by
 rw[arm_eval_Tuple];exact b9 (aA (aK h (λ vs s₁ h₁=>toG (wpAny_newTuple h₁.2 h₁.1)) λ _ _ e=>e))
theorem ER(h:ai (ag prog w) A (spliced (backTo pos (fO elts env))) (λ vs s₁=>vs.length<=sizeLine/\Q (.ref s₁.heap.objs.size) { s₁ with heap:=s₁.heap.push { cls:= .type "list",data:= .seq vs.toArray } }) E s):ai (ag prog w) A (aZ (.List elts pos) env) Q E s:=by
 rw[arm_eval_List];exact b9 (aA (aK h (λ vs s₁ h₁=>toG (wpAny_newList h₁.2 h₁.1)) λ _ _ e=>e))
theorem ES(h:ai (ag prog w) A (aZ value env) (λ o s₁=>ai (ag prog w) A (getAttr o attr W8) Q E s₁) E s)
  (he:aZ (.Attribute value attr pos) env= (do
   let o ←aZ value env
   standAt pos.atName
   let r ←fR [o] (getAttr o attr W8)
   letTemporaryGo value o r
   pure r):=by with_unfolding_all rfl):ai (ag prog w) A (aZ (.Attribute value attr pos) env) Q E s:=by
 rw[he];exact aA (aK h (λ o s₁ h₁=>b9 (aA (cV (aK h₁ (λ r SP h₂=>bX (wpAny_letTemporaryGo (aT h₂))) λ _ _ x=>x)))) λ _ _ x=>x)
theorem ET(h:ai (ag prog w) A (aZ e env) (λ _=>Q .next) E s)(hi:interactive env=W9:=by rfl)(hs:swapsWith e W7 pos.line env=pure W9:=by rfl):ai (ag prog w) A (exec (.Expr e pos) env) Q E s:=by
 rw[exec_Expr env e pos hi hs];exact b9 (aA (aK h (λ v s' h'=>toG (wpAny_dropValue h')) λ _ _ x=>x))
theorem EU[Decidable c](h:ai M A (k ()) Q E s):ai M A (if c then(standAt pos >>=k) else k ()) Q E s:=by
 split
 ·exact b9 h
 ·exact h
theorem wG
  (VF:clausesOf e=g::gs) (hs:∀x,foldedSetIterable g.iter env x=pure x) (WZ:closureFor scope env=pure cl) (UG:scope.kind= .function) (V9:∀x∈scope.names,x.2= .local->scope.names.lookup x.1=W6 .local)
  (h:ai (ag prog w) A first (λ x s₁=>aC (ag prog w) A (pyIter x) (λ it SP=>aC (ag prog w) A newAcc (λ acc s₃=>
   aC (ag prog w) A (newFunctionEnv scope env.globals cl [] env.qual W7 .none (W6 env)) (λ cenv TB=>
    cf (ag prog w) A (.compStart e 0 it acc { cenv with scope:=relabel scope env }) (compPost (ag prog w) A E use Q acc cenv.locals) TB) E s₃) E SP) E s₁) E s):
  ai (ag prog w) A (comprehension e scope env pos newAcc W9 first use) Q E s:=by
 unfold comprehension;rw[WZ,VF];refine aA (aK h (λ x s₁ h₁=>b9 (aA (lT (hs x) (bX (f9 (el h₁ (λ it SP h₂=> ?_) λ _ _ h'=>h')))))) λ _ _ h'=>h');refine EU (bX (el h₂ (λ acc s₃ S_=>aA (aT (bX (el S_ (λ cenv TB TM=> ?_) λ _ _ h'=>h')))) λ _ _ h'=>h'));dsimp only;have hv:∀x∈(scope.names.filter λ x=>(x.2== .local || x.2== .cell) && x.1 != (".0" :ab)).reverse,x.2= .local->Env.kindOf { cenv with scope:=relabel scope env } x.1=W6 .local:=λ x hx hl=>lookup_relabel_local (V9 x (List.mem_filter.mp (List.mem_reverse.mp hx)).1 hl)
 have VM:∀x∈(scope.names.filter λ x=>(x.2== .local || x.2== .cell) && x.1 != (".0" :ab)).reverse.drop 1++(scope.names.filter λ x=>(x.2== .local || x.2== .cell) && x.1 != (".0" :ab)).reverse.take 1,
   x.2= .local->Env.kindOf { cenv with scope:=relabel scope env } x.1=W6 .local:=λ x hx hl=>by
  rcases bV.mp hx with h1 | h1
  ·exact hv x (kn h1) hl
  ·exact hv x (lM h1) hl
 refine cV (aA (rG (cV (wt (iI TM λ r s' hr=> ?_)))));induction r with
 | ok f=>
  induction use with
  | none=>
   revert hr;refine b7 λ m hn hr=> ?_;exact toG (aB (f9 (wpAny_comp_letGo (cenv:={ cenv with scope:=relabel scope env }) UG _ s' m hv hn λ h' m' _ T_=>bW (hr h' T_))))
  | some u=>
   refine toG (aB (wpAny_rule (aB (f9 (el hr (λ _ s'' WG=> ?_) λ _ _ h'=>h')))));revert WG;refine b7 λ m hn WG=> ?_;exact aB (wpAny_comp_letGo (cenv:={ cenv with scope:=relabel scope env }) UG _ s'' m VM hn λ h' m' _ T_=>bW (WG h' T_))
 | error x=>
  have WG:∃m,s'.heap.Ns cenv.locals m/\∀h',bS.SameBut cenv.locals s'.heap h'->∀VV:Env,VV.locals=cenv.locals->aC (ag prog w) A (passOn "comprehension.variables-let-go" x VV:Sem az) (λ _ _=>False) E { s' with heap:=h' }:=by induction use <;> exact hr
  revert WG;refine b7 λ m hn hr=> ?_;exact toG (aB (f9 (wpAny_comp_letGo (cenv:={ cenv with scope:=relabel scope env }) UG _ s' m hv hn λ h' m' _ T_=>el (hr h' T_ _ rfl) (λ _ _ f=>f.elim) λ _ _ y=>y)))
theorem EV
  (h0:cf (ag prog w) A (.compLoop (.ListComp elt (⟨target,iter,ifs,0⟩::rest) scope pos) 0 it acc env) R s)
  (h:aC (ag prog w) A (pyIter it) (λ it' s'=>cf (ag prog w) A (.compLoop (.ListComp elt (⟨target,iter,ifs,0⟩::rest) scope pos) 0 it' acc env) R s') (eA (ag prog w) A env λ x s'=>R (.error x) s') s):
  cf (ag prog w) A (.compStart (.ListComp elt (⟨target,iter,ifs,0⟩::rest) scope pos) 0 it acc env) R s:=by
 refine gz (λ _ _=>rfl) ?_;show ai _ _ ((compStart (.ListComp elt (⟨target,iter,ifs,0⟩::rest) scope pos) 0 it acc env).onRaise (λ x=>do jb x env;standAt theWindowsPlace)) _ _ s
 refine kH (k:=λ _=>standAt theWindowsPlace) (λ x s' e=>wpAny_standAt e) ?_;unfold compStart;show ai _ _ (ask >>=_) _ _ s;refine bX (wpAny_askSetting ?_)
 split
 ·first
   | exact aA (aT (aT (ik rfl h0)))
   | exact aT (ik rfl h0)
 ·have h1:ai (ag prog w) A (pyIter it) _ (eA (ag prog w) A env λ x s'=>R (.error x) s') s:=toG h
  first
   | exact bX (wpAny_rule (b9 (aA (aK h1 (λ it' s' h'=>aT (ik rfl h')) λ _ _ x=>x))))
   | (refine bX (wpAny_rule ?_);show ai _ _ (standAt iter.pos >>=_) _ _ s;exact b9 (aA (aK h1 (λ it' s' h'=>aT (ik rfl h')) λ _ _ x=>x)))
theorem EW(I:Nat->aw->Prop)
  (turn:∀n s,I n s->aC (ag prog w) A (pyNext it) (λ r s₁=>match r with
   | none=>R (.ok .next) s₁
   | some v=>aC (ag prog w) A (assign target env v) (λ _ SP=>ai (ag prog w) A (aZ elt env) (λ x TB=>
       aC (ag prog w) A (call (.builtin "list.append") [acc,x]) (λ _ s₅=>∃m,m<n/\I m s₅) (eA (ag prog w) A env λ e s'=>R (.error e) s') TB) (eA (ag prog w) A env λ e s'=>R (.error e) s') SP) (eA (ag prog w) A env λ e s'=>R (.error e) s') s₁) (eA (ag prog w) A env λ e s'=>R (.error e) s') s)
  (n:Nat) (h:I n s) (ht:∀v,letOwnedTupleGo target it v=pure ():=by intro _;rfl):
  cf (ag prog w) A (.compLoop (.ListComp elt [⟨target,iter, [],0⟩] scope pos) 0 it acc env) R s:=by
 refine rJ (λ _ _=>rfl) rfl I (λ n s hI=> ?_) n s h;show ai _ A ((compTurn (.ListComp elt [⟨target,iter, [],0⟩] scope pos) 0 it acc env).onRaise (λ x=>do jb x env;theTreesLotGoes x)) _ _ s
 refine kH (λ x s' e=>oU e) ?_;rw[compTurn_list];refine b9 (bX (el (turn n s hI) (λ r s₁ h₁=> ?_) λ _ _ h'=>h'));induction r with
 | none=>exact aT h₁
 | some v=>
  refine aA (lT (ht v) ?_);refine bX (el h₁ (λ _ SP h₂=> ?_) λ _ _ h'=>h');refine aA (lT (a:=W8) (by first | rfl | simp[forIn]) ?_)
  exact rI rfl (aA (aA (aK h₂ (λ x TB TM=>bX (el TM (λ _ s₅ V1=>aT (aT (.inl ⟨rfl,V1⟩))) λ _ _ h'=>h')) λ _ _ h'=>h')))
end
end
section
open PySem.Calls
section
variable{prog:Program}{w:aQ}{A:dj}{C:ak}{R:Result->aw->Prop}{h:bS}{g:Array GenState}{d:Drawn}{t:Nat}{os:OsState}
theorem pf{id:String}{args:Args}{b:Builtin}(hd:ip (.builtin id args))(hq:(Code.builtin id args).quiet=W8)(hb:entryFor table id=W6 b)
  (h:aC (ag prog w) A.in1 (ko id args) (λ _ s₁=>ai (ag prog w) (A.under (.builtin id args)) (b args)
   (λ fin s'=>match fin with | .done f=>R (.ok f) s' | .again c'=>c'.quiet=W8/\cf (ag prog w) A c' R s') (λ e s'=>R (.error e) s') s₁) (λ e s'=>R (.error e) s') s):cf (ag prog w) A (.call (.builtin id) args) R s:=by
 refine gz (λ _ _=>rfl) ?_;show ai _ A.in1 (do ko id args;again (.builtin id args)) _ _ s
 refine bX (el h (λ _ s₁ h₁=>aT (ik hq (gz hd ?_))) λ _ _ h'=>h');show ai _ _ (match entryFor table id with | some b=>b args | none=>unsupported ((withoutEnding? id "#data").getD id)) _ _ s₁
 rw[hb];exact h₁
theorem EX{rest:Lv}(Y:Makes (ag prog w) h C)(hi:Looks (ag prog w) h (typeLookup (.ref C) "__init__") (W6 init))
  (hb:∀self,Looks (ag prog w) h (bindSpecial init self) (init, [self])) (TT:(W6 init !=W6 (az.builtin "object.__init__"))=W8)
  (hq:cf (ag prog w) (A.under (.builtin "type.__call__" ⟨.ref C::rest, []⟩)) (.call init ⟨.ref (h.objs.size+1)::rest, []⟩) (InitBack (h.objs.size+1) R) ⟨(h.push fN).push (instObj C h.objs.size),g,d,t,os⟩):
  cf (ag prog w) A (.call (.ref C) ⟨rest, []⟩) R ⟨h,g,d,t,os⟩:=by
 have Y':=Y;obtain⟨⟨oc,od,cd,sl,hC,e1,e2,e4⟩,made,base,self,top,call,typ⟩:=Y;refine gz (λ _ _=>rfl) ?_;show ai _ _ (callAny (.ref C) _) _ _ _;refine wo hC ?_;show ai _ _ (callAny.viaDunder (.ref C) _) _ _ _;unfold callAny.viaDunder;refine bX (call.at ?_);dsimp only;rw[tc_bind];refine aA (aT (aA (aT ?_)));refine aT (a:=Fin.again (.call (.builtin "type.__call__") ⟨.ref C::rest, []⟩)) (ik rfl ?_);refine pf (rF _) (Code.quiet_builtin _ (by decide+kernel)) entry_typeCall (check_slot tc_kind tc_split typ (tc_args _ _ _) ?_)
 unfold Builtin.«type.__call__»;have hm:Looks (ag prog w) h (mroOf (.ref C)) cd.mro:= ((Looks.ld (part:=W7) hC).andThen .now).andThen .now;have k:∀b o,h.get? b=W6 o->((h.push fN).push (instObj C h.objs.size)).get? b=W6 o:=λ b o e=>dt _ (dt _ e);have hx:((h.push fN).push (instObj C h.objs.size)).get? (h.objs.size+1)=W6 (instObj C h.objs.size):=by heap_get
 have t1:Looks (ag prog w) ((h.push fN).push (instObj C h.objs.size)) (typeOf (.ref (h.objs.size+1))) (.ref C):= (Looks.ld hx).andThen .now;have s1:=self.keeps k;have i1:=hi.keeps k;have b1:= (hb (.ref (h.objs.size+1))).keeps k;dsimp only;refine eH (by rw[show (di C==az.type "type")=W9 from rfl];decide) ?_
 refine bX (hm.at ?_);refine eH (by rw[e4];decide) ?_
 refine bX (made.at ?_);dsimp only;refine aA (aT ?_);refine bX (f9 (wpAny_call (new_K Y' hi (.inl TT) ?_)));dsimp only;refine bX (m:=isInstance _ _) ?_;unfold isInstance
 repeat lk
 refine eH (by decide) ?_
 refine aA (cV ?_);unfold callSpecial? specialOf;refine bX (aB (t1.at (i1.at ?_)));dsimp only;refine cV (bX (b1.at ?_));dsimp only;refine aA (kF (iI hq λ r s' z=> ?_));rcases r with e | (v | _ | _ | _) <;> first | exact z | exact z.elim | skip
 revert z;refine bF λ Tj z=> ?_;subst Tj;exact aT (eH (by decide) (aT z))
end
end
section
open PySem.Calls
inductive aW {α β:Type} (r:α->β->Prop):List α->List β->Prop
 | nil:aW r [] []
 | cons {a b l m}:r a b->aW r l m->aW r (a::l) (b::m)
theorem aW.inv{α β:Type}{r:α->β->Prop}{l:List α}{m:List β}(h:aW r l m):match l with
  | []=>m= []
  | a::l=>∃b t,m=b::t/\r a b/\aW r l t:=by
 induction h with
 | nil=>rfl
 | cons x y _=>exact⟨_,_,rfl,x,y⟩
theorem aW.inv_cons(h:aW r (a::l) m):∃b t,m=b::t/\r a b/\aW r l t:=h.inv
theorem aW.mono(h:∀a b,r a b->r' a b)(c:aW r l m):aW r' l m:=by
 induction c with
 | nil=>exact .nil
 | cons x _ ih=>exact .cons (h _ _ x) ih
theorem aW.len(c:aW r l m):l.length=m.length:=by
 induction c with
 | nil=>rfl
 | cons _ _ ih=>exact congrArg Nat.succ ih
theorem aW.append(c:aW r l m)(h:aW r l' m'):aW r (l++l') (m++m'):=by
 induction c with
 | nil=>exact h
 | cons x _ ih=>exact .cons x ih
theorem aW.get:∀{l:List α} {m:List β} {i:Nat} {a:α},aW r l m->l[i]? =W6 a->∃b,m[i]? =W6 b/\r a b:=by
 intro l m i a h;induction h generalizing i with
 | nil=>exact λ h=>by simp at h
 | cons x _ ih=>
  intro h;induction i with
  | zero=>injection h with h;subst h;exact⟨_,rfl,x⟩
  | succ i=>exact ih (by simpa using h)
theorem aW.set{α β:Type}{r:α->β->Prop}{a:α}{b:β}(hr:r a b):∀{l:List α} {m:List β} (i:Nat),aW r l m->aW r (l.set i a) (m.set i b):=by
 intro l m i h;induction h generalizing i with
 | nil=>exact .nil
 | cons x y ih=>induction i with
  | zero=>exact .cons hr y
  | succ i=>exact .cons x (ih i)
abbrev Ln:=List Nat
inductive AV where
 | non
 | bo (b:Bool)
 | num (i:Int)
 | st (x:Ln)
 | by_ (b:Ln)
 | ob (k:Nat)
 | gl (v:az)
abbrev Ll:=List (List Nat)
inductive AO where
 | inst (C:ak) (d:Nat)
 | dic (l:List (ab×AV))
 | lst (xs:List AV)
 | lstS (xs:Ll)
 | lstI (xs:List Int)
 | tup (xs:List AV)
 | tupS (xs:Ll)
 | bar (b:Ln)
 | rng (n:Nat)
 | cel (v:AV)
 | exc (d:Nat)
 | exn (d:Nat)
 | ex0
 | raw (o:Obj)
 | exd (d:Nat)
 | cl0
 | cod (q:ab)
 | lam (i c:Nat) (cs:List (ab×Nat))
 | tab (l:List (Nat×Nat×Nat))
 | lstR (xs:List Int) (o:Obj)
open AV renaming non->W',bo->Xa,num->Xc,st->Xd,by_->Xe,ob->Xf
open AO renaming inst->Xg,dic->Xh,lst->Xi,tup->Xj,tupS->Xk,cel->Xl,exc->Xm,exd->Xn,cod->Xo,lam->Xp,tab->Xq,lstR->Xr
structure AS where
 loc:List (ab×AV)
 objs:List AO
noncomputable def cx(l:Ln):Array UInt8:= (l.map jJ).toArray
def aU(ads:Ld):AV->az->Prop
 | .non,v=>v= .none
 | .bo b,v=>v= .bool b
 | .num i,v=>∃t,v= .int i t
 | .st x,v=>∃t,v= .str ⟨x.toArray⟩ t
 | .by_ b,v=>(∀x∈b,x<256)/\∃t,v= .bytes (cx b) t
 | .ob k,v=>∃a,ads[k]? =W6 a/\v= .ref a
 | .gl g,v=>v=g
theorem dB{ads ads':Ld}(h:ads <+:ads'){k:Nat}{a:ak}(e:ads[k]? =W6 a):ads'[k]? =W6 a:=by
 revert h;refine dw λ t SY=> ?_;subst SY;rw[ib (dP.mp e).1];exact e
theorem aU.mono{ads ads':Ld}(h:ads <+:ads'){a:AV}{v:az}(c:aU ads a v):aU ads' a v:=by
 induction a with
 | ob k=>obtain⟨x,e,r⟩:=c;exact⟨x,dB h e,r⟩
 | _=>exact c
abbrev bk(ads:Ld):List AV->List az->Prop:=aW (aU ads)
theorem bk.mono(h:ads <+:ads')(c:bk ads a v):bk ads' a v:=aW.mono (λ _ _ x=>x.mono h) c
def iJ(ads:Ld):List (ab×AV)->List DictEntry->Prop:=aW λ p e=>(∃t,e.key= .str p.1 t)/\aU ads p.2 e.val
noncomputable def iK(vs:Array az)(n:Nat):Obj:={ cls:= .type "tuple",data:= .seq vs n }
noncomputable def wH(n:Nat)(t0 t1 t2:Tok):Obj:={ cls:= .type "range",data:= .fields #[.int 0 t0, .int n t1, .int 1 t2] }
structure rL where
 qual:ab
 params:Arguments
 body:Expr
 scope:et
 pos:Pos
noncomputable def wI(e:Expr)(q:ab):rL:=if h:e.ctorIdx=4 then Expr.Lambda.elim e h λ a b s p=>⟨q,a,b,s,p⟩ else⟨q,vh, .Constant .none 0 default,fS (.Pass default),default⟩
noncomputable def EY(e:Expr):Expr:=if h:e.ctorIdx=16 then Expr.Call.elim e h λ _ as _ _=>as.headD (.Constant .none 0 default) else .Constant .none 0 default
noncomputable def wJ(s:cD):Expr:=if h:s.ctorIdx=5 then cD.Assign.elim s h λ _ e _=>EY e else .Constant .none 0 default
noncomputable def EZ(s:cD):cD:=if h:s.ctorIdx=12 then cD.If.elim s h λ _ b _ _=>b.headD (.Pass default) else s
noncomputable def wK(b:List cD)(i:Nat):cD:= (b[i]?).getD (.Pass default)
noncomputable def bG:Nat->rL
 | 0=>wI (wJ (EZ (wK (fB (tp 64)) 0))) "read_items.<locals>.<lambda>"
 | n+1=>wI (wJ (wK (fB (tp 71)) (16+n))) "law.<locals>.<lambda>"
inductive gk (ads:Ld):List (Nat×Nat×Nat)->List az->Prop
 | nil:gk ads [] []
 | cons {a b k:Nat} {x:ak} {l vs}:ads[k]? =W6 x->gk ads l vs->gk ads ((a,b,k)::l) (er a::er b:: .ref x::vs)
abbrev nr(ads:Ld):List (ab×Nat)->List (ab×ak)->Prop:=aW λ p q=>p.1=q.1/\ads[p.2]? =W6 q.2
noncomputable abbrev pg(D:rL)(clos:List (ab×ak))(pm:az)(c:ak)(ctv:az):Obj:=kla_obj "<lambda>" D.qual D.params D.body D.scope clos pm c ctv
noncomputable abbrev gV(a:ak)(vs:Array az):Obj:={ cls:= .ref 71,dict:=W6 a,data:= .fields vs }
def wL(vs:Array az):Prop:=vs.size=6/\vs[1]? =W6 .none/\vs[2]? =W6 .none
def wM(vs:Array az):Prop:=vs.size=6/\vs[2]? =W6 .none
def cy(ads:Ld):AO->Obj->Prop
 | .inst C d,o=>∃a,ads[d]? =W6 a/\o=instObj C a
 | .dic l,o=>∃es n,o=dictOf es n/\iJ ads l es
 | .lst xs,o=>∃vs n,o=listOf vs n/\bk ads xs vs.toList
 | .lstS xs,o=>∃vs n,o=listOf vs n/\bk ads (xs.map .st) vs.toList
 | .lstI xs,o=>∃vs n,o=listOf vs n/\bk ads (xs.map .num) vs.toList
 | .tup xs,o=>∃vs n,o=iK vs n/\bk ads xs vs.toList
 | .tupS xs,o=>∃vs n,o=iK vs n/\bk ads (xs.map .st) vs.toList
 | .bar b,o=>(∀x∈b,x<256)/\o= ({ cls:= .type "bytearray",data:= .bytearray (cx b) }:Obj)
 | .rng n,o=>∃t0 t1 t2,o=wH n t0 t1 t2
 | .cel v,o=>∃u,o.data= .cell (W6 u)/\aU ads v u
 | .exc d,o=>∃a vs,ads[d]? =W6 a/\o=gV a vs/\wM vs
 | .exn d,o=>∃a vs,ads[d]? =W6 a/\o=gV a vs/\wL vs
 | .ex0,o=>∃vs,o= ({ cls:= .ref 71,data:= .fields vs }:Obj)/\wL vs
 | .raw o',o=>o=o'
 | .exd d,o=>∃a vs,ads[d]? =W6 a/\o=gV a vs/\vs.size=6
 | .cl0,o=>o.data= .cell W7
 | .cod q,o=>∃vs t,o.data= .fields vs/\vs[1]? =W6 (.str q t)
 | .lam i c cs,o=>∃clos pm ca ctv,ads[c]? =W6 ca/\nr ads cs clos/\o=pg (bG i) clos pm ca ctv
 | .tab l,o=>∃vs,o=eM vs.toArray/\gk ads l vs
 | .lstR xs o',o=>o=o'/\∃vs n,o'=listOf vs n/\bk [] (xs.map .num) vs.toList
theorem gk.mono{ads ads':Ld}(h:ads <+:ads'){l:List (Nat×Nat×Nat)}{vs:Lv}(r:gk ads l vs):gk ads' l vs:=by
 induction r with
 | nil=>exact .nil
 | cons e _ ih=>exact .cons (dB h e) ih
theorem cy.mono{ads ads':Ld}(h:ads <+:ads'){a:AO}{o:Obj}(c:cy ads a o):cy ads' a o:=by
 induction a with
 | inst C d=>obtain⟨x,e,r⟩:=c;exact⟨x,dB h e,r⟩
 | dic l=>obtain⟨es,n,e,r⟩:=c;exact⟨es,n,e,aW.mono (λ _ _ x=>⟨x.1,x.2.mono h⟩) r⟩
 | lst xs=>obtain⟨es,n,e,r⟩:=c;exact⟨es,n,e,bk.mono h r⟩
 | lstS xs=>obtain⟨es,n,e,r⟩:=c;exact⟨es,n,e,bk.mono h r⟩
 | lstI xs=>obtain⟨es,n,e,r⟩:=c;exact⟨es,n,e,bk.mono h r⟩
 | tup xs=>obtain⟨es,n,e,r⟩:=c;exact⟨es,n,e,bk.mono h r⟩
 | tupS xs=>obtain⟨es,n,e,r⟩:=c;exact⟨es,n,e,bk.mono h r⟩
 | bar b=>exact c
 | rng n=>exact c
 | cel v=>obtain⟨u,e,r⟩:=c;exact⟨u,e,r.mono h⟩
 | exd d=>obtain⟨x,vs,e,r⟩:=c;exact⟨x,vs,dB h e,r⟩
 | cl0=>exact c
 | cod q=>exact c
 | lam i k cs=>obtain⟨a1,a2,a3,a4,e,r,q⟩:=c;exact⟨a1,a2,a3,a4,dB h e,aW.mono (λ _ _ x=>⟨x.1,dB h x.2⟩) r,q⟩
 | tab l=>obtain⟨vs,e,r⟩:=c;exact⟨vs,e,r.mono h⟩
 | lstR xs o=>exact c
 | exc d=>obtain⟨x,vs,e,r⟩:=c;exact⟨x,vs,dB h e,r⟩
 | exn d=>obtain⟨x,vs,e,r⟩:=c;exact⟨x,vs,dB h e,r⟩
 | ex0=>exact c
 | raw o=>exact c
structure Dx where
 dp:Nat
 un:Nat
 gd:Option (List Code)
 hdl:Option az
 outer:List Env
 g:bS
 base:bS
 fro:List (ak×Obj)
 gens:Array GenState
 drawn:Drawn
 os:OsState
noncomputable def Dx.A(D:Dx):dj:={ handled:=D.hdl,depth:=D.dp,frames:=W6 D.outer,guards:=D.gd,units:=D.un }
structure Cx extends Dx where
 qual:ab
 scope:et
 L:ak
 fn:Option ak
 cd:az
 cells:List (ab×ak)
 ini:List ak
 fa:ak
 comp:Bool
noncomputable def Cx.env(C:Cx):Env:={ scope:=C.scope,locals:=C.L,globals:=ie,cells:=C.cells,qual:=C.qual,func:=C.fn,code:=C.cd,frame:=W6 C.fa,builtins:=builtinsNs }
noncomputable def Cx.envs(C:Cx):List Env:=match C.comp with
 | true=>C.outer
 | false=>C.env::C.outer
noncomputable def Cx.A(C:Cx):dj:={ handled:=C.hdl,depth:=C.dp,frames:=W6 C.envs,guards:=C.gd,units:=C.un }
abbrev kI(base:bS)(env:Env)(p:ak×Obj):Prop:=env.scope.kind≠ .module/\env.frame=W6 p.1/\base.get? p.1=W7/\∃es n,p.2.data= .dict es n
noncomputable def eP(o:Obj):Bool:=match o.data with
 | .dict .. =>W9
 | _=>W8
abbrev Tm:=ab->Option az
def ph(mg:Tm)(h:bS):Prop:=∃bm ob,mg "__builtins__" =W6 (.ref bm)/\bm≠builtinsNs/\h.get? bm=W6 ob/\ob.cls= .type "module" /\ob.dict=W6 builtinsNs/\ob.data= .plain
theorem ph.keeps(b:ph mg h)(k:h.StaysIn h'):ph mg h':=let ⟨bm,ob,a1,a2,a3,r⟩:=b;⟨bm,ob,a1,a2,k _ _ a3,r⟩
structure jc (w:aQ) (mg mb:Tm) (bud:Nat) (C:Dx):Prop where
 K:(K0 w.params).In C.g
 top:TopRead q0 (looseW q0 jN) mg mb C.g
 stays:C.base.StaysIn C.g
 dp:C.dp+4*bud+5<recursionLimit
 un:C.un+40*bud+40<cLine
 fro:∃f it,C.fro=f++it/\aW (kI C.base) C.outer f
 bm:ph mg C.g
structure bc (w:aQ) (mg mb:Tm) (bud:Nat) (C:Cx):Prop extends jc w mg mb bud C.toDx where
 kind:C.scope.kind= .function
 own:C.comp=W9->C.fa=C.L/\C.base.get? C.L=W7
abbrev fC:List (ak×Obj)->List (ak×Obj)->Prop:=aW (λ(p q:ak×Obj)=>q.1=p.1/\∃sl,q.2=⟨p.2.cls,p.2.dict,p.2.data,sl⟩/\(eP p.2=W8->sl=p.2.slots))
abbrev Tf:=List (ak×Obj)
structure aE (C:Cx) (ads:Ld) (σ:AS) (s:aw) (os:Lo) (fr:Tf) (m:Tm):Prop where
 hgens:s.gens=C.gens
 hdrawn:s.drawn=C.drawn
 hos:s.os=C.os
 F:Fr C.g C.L s.heap m
 loc:∀x v,σ.loc.lookup x=W6 v->∃u,m x=W6 u/\aU ads v u
 N:News C.g C.L s.heap (ads.zip os++fr)
 len:os.length=ads.length
 objs:aW (cy ads) σ.objs os
 nd:(ads++fr.map (·.1)).Nodup
 frs:fC C.fro fr
 ini:C.ini <+:ads
def bK(C:Cx)(ads:Ld)(σ:AS)(s:aw):Prop:=∃os fr m,aE C ads σ s os fr m
def rM(C:Cx)(ads:Ld)(k:Nat)(e:az)(s:aw):Prop:=
 ∃a oe vs,ads[k]? =W6 a/\e= .ref a/\s.heap.get? a=W6 oe/\oe.data= .fields vs/\1<vs.size/\
  (vs[1]? =W6 .none∨∃T oT ts fl,vs[1]? =W6 (.ref T)/\C.g.get? T=W7/\T ∉ ads/\T≠C.L/\T ∉ C.fro.map (·.1)/\s.heap.get? T=W6 oT/\oT.data= .fields ts/\ts[3]? =W6 fl/\(fl= .none∨fl=er C.fa))
section
variable{α β γ:Type}{w:aQ}{C:Cx}{ads:Ld}{σ:AS}
def ee(C:Cx)(ads:Ld)(rel:List ak->α->β->Prop)(Q:β->AS->Prop)(a:α)(s':aw):Prop:=
 ∃ads' σ' b,ads <+:ads'/\bK C ads' σ' s'/\rel ads' a b/\Q b σ'
abbrev La:=List AO
def jO(objs:La)(k:Nat):Prop:=∃d,objs[k]? =W6 (.exc d)∨objs[k]? =W6 (.exd d)
abbrev Tn:=Nat->AS->Prop
def dD(C:Cx)(R:Tn)(e:az)(s':aw):Prop:=
 ∃ads' σ' k,bK C ads' σ' s'/\jO σ'.objs k/\rM C ads' k e s'/\R k σ'
def WA(w:aQ)(C:Cx)(ads:Ld)(σ:AS)(t:Sem α)(rel:List ak->α->β->Prop)(Q:β->AS->Prop)(R:Tn):Prop:=
 ∀s,bK C ads σ s->aC (ag pw w) C.A t (ee C ads rel Q) (dD C R) s
def W(w:aQ)(C:Cx)(ads:Ld)(σ:AS)(t:Sem α)(rel:List ak->α->β->Prop)(Q:β->AS->Prop)(R:Tn):Prop:=
 ∀s,bK C ads σ s->ai (ag pw w) C.A t (ee C ads rel Q) (dD C R) s
abbrev RV(ads:Ld)(v:az)(a:AV):Prop:=aU ads a v
abbrev RL(ads:Ld)(v:Lv)(a:List AV):Prop:=bk ads a v
abbrev RE{α:Type}(_:Ld)(v a:α):Prop:=v=a
theorem ee.grow(h:Tu <+:ads)(x:ee C ads rel Q a s):ee C Tu rel Q a s:=
 let ⟨a',σ',b,p,r⟩:=x;⟨a',σ',b,h.trans p,r⟩
theorem W.here(r:bK C ads σ s)(h:W w C ads σ t rel Q R)
  (k:∀ads' σ' a b s',ads <+:ads'->bK C ads' σ' s'->rel ads' a b->Q b σ'->Q' a s'):ai (ag pw w) C.A t Q' (dD C R) s:=
 aK (h s r) (λ _ _ ⟨a',σ',b,p,r,l,q⟩=>k a' σ' _ b _ p r l q) (λ _ _ x=>x)
theorem W.on(hp:Tu <+:ads)(r:bK C ads σ s)(h:W w C ads σ t rel Q R):
  ai (ag pw w) C.A t (ee C Tu rel Q) (dD C R) s:=
 aK (h s r) (λ _ _ x=>x.grow hp) (λ _ _ x=>x)
theorem WA.toG(h:WA w C ads σ t rel Q R):W w C ads σ t rel Q R:=λ s r=>_root_.Mine.Lake.toG (h s r)
theorem W.ret(hp:Tu <+:ads)(r:bK C ads σ s)(hr:rel ads a b)(h:Q b σ):ee C Tu rel Q a s:=⟨ads,σ,b,hp,r,hr,h⟩
theorem bK.toks(r:bK C ads σ s)(t:Nat):bK C ads σ { s with toks:=t }:=by
 revert r;refine dk λ os fr m x=> ?_;exact⟨os,fr,m,⟨x.hgens,x.hdrawn,x.hos,x.F,x.loc,x.N,x.len,x.objs,x.nd,x.frs,x.ini⟩⟩
theorem eI:∀{l:List α} {m:List β} {i:Nat} {a:α} {b:β},l[i]? =W6 a->m[i]? =W6 b->(a,b)∈l.zip m:=by
 intro l;induction l with
 | nil=>intro m i a b h;cases i <;> contradiction
 | cons x l ih=>
  intro m i a b h h';induction m using gS with
  | nil=>cases i <;> contradiction
  | cons y m=>
   induction i using Nat.casesOn with
   | zero=>exact bQ h ▸ bQ h' ▸ .head _
   | succ i=>exact .tail _ (ih h h')
theorem aE.obj{s:aw}{os:Lo}{fr:Tf}{m:Tm}(x:aE C ads σ s os fr m){k:Nat}{ao:AO}(h:σ.objs[k]? =W6 ao):
  ∃a o,ads[k]? =W6 a/\os[k]? =W6 o/\cy ads ao o/\s.heap.get? a=W6 o/\(a,o)∈ads.zip os++fr:=by
 refine aj (x.objs.get h) λ o ho hr=> ?_;have hl:k<ads.length:=by rw[←x.len];exact(dP.mp ho).1
 have hm:=bU fr (eI (bP hl) ho);exact⟨ads[k],o,bP hl,ho,hr,(x.N _ hm).1,hm⟩
theorem wN{l:Tf}{a:ak}(h:∀p∈l,p.1<a):a ∉ l.map (·.1):=λ hm=>by
 refine aj (cZ.mp hm) λ p hp zq2=> ?_;subst zq2;exact absurd (h p hp) (gR _)
theorem nu:∀{l:List α} {m:List β},m.length=l.length->(l.zip m).map (·.1)=l
 | [],_,_=>by simp
 | x::l, [],h=>by simp at h
 | x::l,y::m,h=>by simp only[List.zip_cons_cons,eW,List.cons.injEq,true_and];exact nu (by simpa using h)
theorem wO(h:m.length=l.length):(l++ [a]).zip (m++ [b])=l.zip m++ [(a,b)]:=by
 rw[List.zip_append h.symm];rfl
theorem aE.add{s:aw}{os:Lo}{fr:Tf}{m:Tm}(x:aE C ads σ s os fr m){h':bS}{tk:Nat}{a:ak}{o:Obj}{ao:AO}
  (F:Fr C.g C.L h' m) (N:News C.g C.L h' ((a,o)::(ads.zip os++fr))) (hn:a ∉ ads++fr.map (·.1)) (hr:cy (ads++ [a]) ao o):
  aE C (ads++ [a]) ⟨σ.loc,σ.objs++ [ao]⟩ { s with heap:=h',toks:=tk } (os++ [o]) fr m:=by
 have hp:ads <+:ads++ [a]:=c9 _ _;refine⟨x.hgens,x.hdrawn,x.hos,F,λ y v h=> ?_, ?_, ?_, ?_, ?_,x.frs,x.ini.trans hp⟩
 ·refine aj (x.loc y v h) λ u h1 h2=> ?_
  exact⟨u,h1,h2.mono hp⟩
 ·rw[wO x.len]
  intro p hp;refine N p ?_;simp only[bV,bR,List.not_mem_nil,or_false]at hp ⊢
  rcases hp with(h | h) | h
  ·exact .inr (.inl h)
  ·exact .inl h
  ·exact .inr (.inr h)
 ·rw[bD,bD,x.len];rfl
 ·exact(aW.mono (λ _ _ y=>y.mono hp) x.objs).append (.cons hr .nil)
 ·have:=x.nd
  rw[cS];refine cC.mpr ⟨(cC.mp this).1, ?_, ?_⟩
  ·exact ku.mpr ⟨λ q=>hn (cu _ q),(cC.mp this).2.1⟩
  ·intro b hb c hc e
   subst e;rcases bR.mp hc with rfl | hc
   ·exact hn (bU _ hb)
   ·exact(cC.mp this).2.2 b hb b hc rfl
theorem aE.fresh{s:aw}{os:Lo}{fr:Tf}{m:Tm}(x:aE C ads σ s os fr m):∀p∈ads.zip os++fr,p.1<s.heap.objs.size:=λ p hp=>ed (x.N p hp).1
theorem aE.keys{s:aw}{os:Lo}{fr:Tf}{m:Tm}(x:aE C ads σ s os fr m):(ads.zip os++fr).map (·.1)=ads++fr.map (·.1):=by
 rw[eJ,nu x.len]
theorem aE.push{s:aw}{os:Lo}{fr:Tf}{m:Tm}(x:aE C ads σ s os fr m){tk:Nat}{o:Obj}{ao:AO}(hf:o.isFreed=W9)(hr:cy (ads++ [s.heap.objs.size]) ao o):
  aE C (ads++ [s.heap.objs.size]) ⟨σ.loc,σ.objs++ [ao]⟩ { s with heap:=s.heap.push o,toks:=tk } (os++ [o]) fr m:=
 x.add (x.F.push o) (x.N.push x.F o hf) (by rw[←x.keys];exact wN x.fresh) hr
theorem rN{α β:Type}{l:List α}{m:List β}{b:β}{p:α×β}(h:p∈l.zip (m.set i b)):(∃a,l[i]? =W6 a/\p= (a,b))∨∃j,j≠i/\l[j]? =W6 p.1/\m[j]? =W6 p.2:=by
 obtain⟨j,hj,rfl⟩:=List.getElem_of_mem h;have hl:j<l.length:=by simp at hj;grind
 have hm:j<m.length:=by simp at hj;lia
 by_cases e:j=i
 ·subst e
  refine .inl ⟨l[j],bP hl, ?_⟩;simp
 ·refine .inr ⟨j,e, ?_, ?_⟩
  ·simp[hl]
  ·simp[hm,List.getElem_set,Ne.symm e]
theorem kJ{α:Type}{l:List α}(h:l.Nodup){i j:Nat}{a:α}(hi:l[i]? =W6 a)(hj:l[j]? =W6 a):i=j:=by
 refine cv (dP.mp hi) λ li ei=> ?_;refine cv (dP.mp hj) λ lj ej=> ?_;exact(List.getElem_inj h).mp (ei.trans ej.symm)
theorem aE.upd{s:aw}{os:Lo}{fr:Tf}{m:Tm}(x:aE C ads σ s os fr m){tk:Nat}{k:Nat}{a:ak}{o o':Obj}{f:Obj->Obj}{ao:AO}
  (ha:ads[k]? =W6 a) (ho:os[k]? =W6 o) (e:f o=o') (hf:o'.isFreed=W9) (hr:cy ads ao o'):
  aE C ads ⟨σ.loc,σ.objs.set k ao⟩ { s with heap:=s.heap.update a f,toks:=tk } (os.set k o') fr m:=by
 have hm:=bU fr (eI ha ho);have D:=x.N _ hm;refine jL x.F.ns λ oL es ep hL r=> ?_;have other:∀b,b≠a->(s.heap.update a f).get? b=s.heap.get? b:=λ b hb=>bS.get?_update_ne _ _ _ _ hb;refine⟨x.hgens,x.hdrawn,x.hos,⟨⟨oL,es,ep,(other _ (Ne.symm D.2.1)).trans hL,r⟩,λ b ob q=>(other b λ z=> ?_).trans (x.F.keep b ob q),x.F.above⟩,x.loc,λ p hp=> ?_,by rw[o6];exact x.len,x.objs.set hr k,x.nd,x.frs,x.ini⟩
 ·have:=D.2.2;rw[←z,q]at this;contradiction
 ·rcases bV.mp hp with q | q
  ·rcases rN q with⟨a',Va,rfl⟩ | ⟨j,hj,h1,h2⟩
   ·rw[ha]at Va
    obtain rfl:=bQ Va;exact⟨e ▸ mZ _ D.1 (e ▸ hf),D.2⟩
   ·have hp':=bU fr (eI h1 h2)
    have TT:p.1≠a:=λ z=>hj (kJ (cC.mp x.nd).1 h1 (z ▸ ha));have P:=x.N _ hp';exact⟨(other _ TT).trans P.1,P.2⟩
  ·have P:=x.N p (cu _ q)
   have TT:p.1≠a:=λ z=>(cC.mp x.nd).2.2 a (dH ha) p.1 (gN q) z.symm;exact⟨(other _ TT).trans P.1,P.2⟩
noncomputable def dU(y:ab)(v:AV):List (ab×AV)->List (ab×AV)
 | []=> [(y,v)]
 | p::r=>match p.1==y with
  | true=>(y,v)::r
  | false=>p::dU y v r
theorem pj:dU y v (p::r)=match p.1==y with
 | true=>(y,v)::r
 | false=>p::dU y v r:=rfl
theorem E1:∀{l:List (ab×AV)},(dU y v l).lookup y=W6 v:=by
 intro l;induction l with
 | nil=>
  show List.lookup y [(y,v)]=_;rw[gO,beq_self_eq_true]
 | cons p r ih=>
  rw[pj];cases h:p.1==y with
  | true=>simp
  | false=>
   have:(y==p.1)=W9:=by rw[beq_eq_false_iff_ne]at h ⊢;exact Ne.symm h
   obtain⟨p1,p2⟩:=p;rw[gO,this];exact ih
theorem E2(e:z≠y):∀{l:List (ab×AV)},(dU y v l).lookup z=l.lookup z:=by
 intro l;induction l with
 | nil=>
  show List.lookup z [(y,v)]=W7;rw[gO,beq_eq_false_iff_ne.mpr e];rfl
 | cons p r ih=>
  rw[pj];cases h:p.1==y with
  | true=>
   have h1:p.1=y:=by simpa using h
   have:(z==y)=W9:=beq_eq_false_iff_ne.mpr e;obtain⟨p1,p2⟩:=p;simp only at h1;subst h1;simp[gO,this]
  | false=>
   obtain⟨p1,p2⟩:=p;simp only[gO];cases z==p1 with
   | true=>rfl
   | false=>exact ih
theorem aE.store{s:aw}{os:Lo}{fr:Tf}{m:Tm}(x:aE C ads σ s os fr m){tk:Nat}{h':bS}{y:ab}{v:az}{av:AV}
  (hn:h'.Ns C.L (λ z=>if z=y then W6 v else m z)) (hs:bS.SameBut C.L s.heap h') (hv:aU ads av v):
  aE C ads ⟨dU y av σ.loc,σ.objs⟩ { s with heap:=h',toks:=tk } os fr (λ z=>if z=y then W6 v else m z):=by
 refine⟨x.hgens,x.hdrawn,x.hos,x.F.set hn hs,λ z u h=> ?_,x.N.set hs,x.len,x.objs,x.nd,x.frs,x.ini⟩
 by_cases e:z=y
 ·subst e
  rw[E1]at h;injection h with zq;subst zq
  exact⟨v,by simp,hv⟩
 ·rw[E2 e]at h
  refine aj (x.loc z u h) λ u' h1 h2=> ?_;exact⟨u',by simp[e,h1],h2⟩
noncomputable def gA:List Nat->Nat->Option Nat
 | [],_=>W7
 | x::r,k=>match aO x k with
  | true=>W6 0
  | false=>(gA r k).map (· +1)
theorem E3:gA (x::r) k=match aO x k with
 | true=>W6 0
 | false=>(gA r k).map (· +1):=rfl
noncomputable def AV.toL(ι:Ln):AV->Option AV
 | .ob k=>(gA ι k).map .ob
 | v=>W6 v
noncomputable def bZ{α β:Type}(f:α->Option β):List α->Option (List β)
 | []=>W6 []
 | x::r=>(f x).bind λ y=>(bZ f r).map (y:: ·)
theorem jP:bZ f (x::r)= (f x).bind λ y=>(bZ f r).map (y:: ·):=rfl
noncomputable def AO.toL(ι:Ln):AO->Option AO
 | .inst C d=>(gA ι d).map (.inst C)
 | .dic l=>(bZ (λ p=>(AV.toL ι p.2).map λ v=>(p.1,v)) l).map .dic
 | .lst xs=>(bZ (AV.toL ι) xs).map .lst
 | .lstS xs=>W6 (.lstS xs)
 | .lstI xs=>W6 (.lstI xs)
 | .tup xs=>(bZ (AV.toL ι) xs).map .tup
 | .tupS xs=>W6 (.tupS xs)
 | .bar b=>W6 (.bar b)
 | .rng n=>W6 (.rng n)
 | .cel v=>(AV.toL ι v).map .cel
 | .exc d=>(gA ι d).map .exc
 | .exn d=>(gA ι d).map .exn
 | .ex0=>W6 .ex0
 | .raw o=>W6 (.raw o)
 | .exd d=>(gA ι d).map .exd
 | .cl0=>W6 .cl0
 | .cod q=>W6 (.cod q)
 | .lam i c cs=>(gA ι c).bind λ c=>(bZ (λ p=>(gA ι p.2).map λ k=>(p.1,k)) cs).map (.lam i c)
 | .tab l=>(bZ (λ(p:Nat×Nat×Nat)=>(gA ι p.2.2).map λ k=>(p.1,p.2.1,k)) l).map .tab
 | .lstR xs o=>W6 (.lstR xs o)
end
end
open AV renaming non->W',bo->Xa,num->Xc,st->Xd,by_->Xe,ob->Xf
open AO renaming inst->Xg,dic->Xh,lst->Xi,tup->Xj,tupS->Xk,cel->Xl,exc->Xm,exd->Xn,cod->Xo,lam->Xp,tab->Xq,lstR->Xr
section
open PySem.Calls
section
variable{w:aQ}{prog:Program}{A:dj}{E:Tv}{s:aw}
theorem wQ(b:Array UInt8)(i:Int)(t u:Tok)(h0:0<=i)(h1:i<256):Gives (Builtin.«bytes.__contains__» ⟨[.bytes b t, .int i u], []⟩) (.val (.bool (b.contains i.toNat.toUInt8))):=by
 refine .of_wp λ M A E s Q hq=> ?_;show aC M A (Builtin.Bytes.containsIn "bytes.__contains__" (.bytes b t) (.int i u) >>=λ r=>_) _ E s;refine aB ?_;unfold Builtin.Bytes.containsIn;refine aB (wpAny_attempt (eO (rfl:asIndex (.int i u)=pure i) ?_));refine aB (eO KBy.buffer_eq ?_);dsimp only;rw[if_neg (by simp;lia)]
 exact bW (bW ⟨_,rfl,hq⟩)
theorem E4(h0:0<=i)(h1:i<256)(h:Q (.bool (b.contains i.toNat.toUInt8)) s):aC (ag prog w) A (jo .In (.int i u) (.bytes b t)) Q E s:=
 in_gives (typeIs_bytes s b t) FB.slot_bytes_contains FB.entry_bytes_contains (FB.args_bytes_contains_2 _ _) (wQ b i t u h0 h1) h
theorem E5(h0:0<=i)(h1:i<256)(h:Q (.bool (!b.contains i.toNat.toUInt8)) s):aC (ag prog w) A (jo .NotIn (.int i u) (.bytes b t)) Q E s:=
 notIn_gives (typeIs_bytes s b t) FB.slot_bytes_contains FB.entry_bytes_contains (FB.args_bytes_contains_2 _ _) (wQ b i t u h0 h1) h
end
end
section
open PySem.Calls
section
variable{w:aQ}{M:Model}{A:dj}{E:Tv}{s:aw}{h:bS}{g:Array GenState}{d:Drawn}{t:Nat}{os:OsState}
noncomputable abbrev gB:List az:= [.ref 46, .type "Exception", .type "BaseException", .type "object"]
noncomputable abbrev gW:Obj:=excClassObj "WireFault" "WireFault" 71 70 [.ref 46] gB W8 [] [] W9 W7 W7 (W6 (.ref 62)) W7 (W6 (.str "WireFault" 252)) (W6 (.str "WireFault" 260)) (W6 (.bool W8)) "Exception.__new__"
theorem lU(P:fm):(K0 P).lookup 71=W6 gW:=by kernel_rfl
theorem E6(hC:h.get? 71=W6 gW)(hq:Q () ⟨h,g,d,t,os⟩):aC M A (ko "Exception.__new__" ⟨.ref 71::rest, []⟩) Q E ⟨h,g,d,t,os⟩:=by
 have Fn:=rg;have hcont:(di 71::gB).contains (.type "Exception")=W8:=by decide+kernel
 have hstar:=Fn.noStar;unfold ko;rw[Fn.newKind,Fn.newSplit,Fn.newRow];dsimp only
 repeat (first | refine jC hC ?_ | (refine oV hC ?_;rw[hcont]) | refine wpAny_staticBase_exc hC ?_ | refine wpAny_madeBy_exc hC ?_ | (rw[bne_self_eq_false,if_neg Bool.false_ne_true]) | wp_step)
 exact hq
theorem E7(hC:h.get? 71=W6 gW)
  (hq:R (.ok (.ret (.ref (h.objs.size+1)))) ⟨(h.push { cls:= .type "tuple",data:= .seq rest.toArray }).push { cls:= .ref 71,data:= .fields #[.ref h.objs.size, .none, .none, .none, .bool W9, .none] },g,d,t,os⟩) (TX:rest.length<=sizeLine):
  codeAny (ag pw w) A (.builtin "Exception.__new__" ⟨.ref 71::rest, []⟩) R ⟨h,g,d,t,os⟩:=by
 have Fn:=rg;have hends:=Fn.ends;have hcB:(di 71::gB).contains (.type "Exception")=W8:=by decide+kernel
 have hcA:(di 71::gB).contains (.type "AttributeError")=W9:=by decide+kernel
 have hcN:(di 71::gB).contains (.type "NameError")=W9:=by decide+kernel
 refine codeAny_builtinAt Fn.entry ?_;unfold Builtin.«BaseException.__new__»;refine PySem.wpAt_bind ?_;show PySem.wpAt _ _ _ (stack >>=_) _ _ _;refine PySem.wpAt_bind (PySem.wpAt_stack λ p below=>PySem.wpAt_of_wpAny ?_)
 wp_walk
 refine PySem.wpAt_of_wpAny ?_;rw[Fn.owner]
 repeat (first | with_reducible refine wpAny_madeHere_exc Fn.canon hC ?_ | with_reducible refine jC hC ?_ | (with_reducible refine oV hC ?_;first | rw[hcB] | rw[hcA] | rw[hcN]) | wp_step)
 show R _ _;rw[iG];exact hq
noncomputable abbrev fU(rest:Lv):Obj:={ cls:= .type "tuple",data:= .seq rest.toArray }
noncomputable abbrev kK(T:ak):Obj:={ cls:= .ref 71,data:= .fields #[.ref T, .none, .none, .none, .bool W9, .none] }
theorem E8(hC:h.get? 71=W6 gW):Looks M h (Bind.madeBy (.ref 71)) (W6 "Exception.__new__"):=by
 intro A Q E s k q;obtain⟨hh,g,d,t,os⟩:=s;exact wpAny_madeBy_exc (k _ _ hC) q
theorem E9(X:(K0 P).In h)(TX:rest.length<=sizeLine)
  (hq:cf (ag pw w) (A.under (.builtin "type.__call__" ⟨.ref 71::rest, []⟩)) (.call (.ref 36) ⟨.ref (h.objs.size+1)::rest, []⟩) (InitBack (h.objs.size+1) R) ⟨(h.push (fU rest)).push (kK h.objs.size),g,d,t,os⟩):
  cf (ag pw w) A (.call (.ref 71) ⟨rest, []⟩) R ⟨h,g,d,t,os⟩:=by
 have hC:=X _ _ (lU P);have Fn:=rg;have made:=E8 (M:=ag pw w) hC;have call:Looks (ag pw w) h (specialOf (.ref 71) "__call__") (W6 (.builtin "type.__call__")):=looks_specialIn X (by kernel_rfl)
 have typ:Looks (ag pw w) h (isInstance (.ref 71) (.type "type")) W8:=looks_instIn X (by kernel_rfl)
 have hm:Looks (ag pw w) h (mroOf (.ref 71)) (.ref 71::gB):= ((Looks.ld (part:=W7) hC).andThen .now).andThen .now;have hi:Looks (ag pw w) h (typeLookup (.ref 71) "__init__") (W6 (.ref 36)):=looks_findIn X (by kernel_rfl)
 have hb:∀self,Looks (ag pw w) h (bindSpecial (.ref 36) self) (.ref 36, [self]):=λ self=>bind_fn X self (by kernel_rfl)
 have self:Looks (ag pw w) h (isSubtype (.ref 71) (.ref 71)) W8:=looks_mroIn X (by kernel_rfl)
 refine gz (λ _ _=>rfl) ?_;show ai _ _ (callAny (.ref 71) _) _ _ _;refine wo hC ?_;show ai _ _ (callAny.viaDunder (.ref 71) _) _ _ _;unfold callAny.viaDunder;refine bX (call.at ?_);dsimp only;rw[tc_bind];refine aA (aT (aA (aT ?_)));refine aT (a:=Fin.again (.call (.builtin "type.__call__") ⟨.ref 71::rest, []⟩)) (ik rfl ?_);refine pf (rF _) (Code.quiet_builtin _ (by decide+kernel)) entry_typeCall (check_slot tc_kind tc_split typ (tc_args _ _ _) ?_)
 unfold Builtin.«type.__call__»;have e4:(di 71::gB).isEmpty=W9:=rfl;have k:∀b o,h.get? b=W6 o->((h.push (fU rest)).push (kK h.objs.size)).get? b=W6 o:=λ b o e=>dt _ (dt _ e);have hx:((h.push (fU rest)).push (kK h.objs.size)).get? (h.objs.size+1)=W6 (kK h.objs.size):=by heap_get
 have t1:Looks (ag pw w) ((h.push (fU rest)).push (kK h.objs.size)) (typeOf (.ref (h.objs.size+1))) (.ref 71):= (Looks.ld hx).andThen .now;have s1:=self.keeps k;have i1:=hi.keeps k;have b1:= (hb (.ref (h.objs.size+1))).keeps k;dsimp only;refine eH (by rw[show (di 71==az.type "type")=W9 from rfl];decide) ?_
 refine bX (hm.at ?_);refine eH (by rw[e4];decide) ?_
 refine bX (made.at ?_);dsimp only;refine aA (aT ?_);refine bX (f9 (wpAny_call (codeAny_call_builtin_code (Code.quiet_builtin _ Fn.quiet) (E6 hC (E7 hC ?_ TX)))));dsimp only;refine bX (m:=isInstance _ _) ?_;unfold isInstance
 repeat lk
 refine eH (by decide) ?_
 refine aA (cV ?_);unfold callSpecial? specialOf;refine bX (aB (t1.at (i1.at ?_)));dsimp only;refine cV (bX (b1.at ?_));dsimp only;refine aA (kF (iI hq λ r s' z=> ?_));rcases r with e | (v | _ | _ | _) <;> first | exact z | exact z.elim | skip
 revert z;refine bF λ Tj z=> ?_;subst Tj;exact aT (eH (by decide) (aT z))
end
end
section
open PySem.Calls
section
variable{w:aQ}{A:dj}{E:Tv}{s:aw}{h₀:bS}{L:ak}{m:Tm}{R:Result->aw->Prop}
theorem wR(X:(K0 P).In s.heap)(I:W.InstAt s.heap x ox 71 od)(ht:takerIn (K0 P) 71 name=W6 W7)
  (h:∀b,aC (ag pw w) A.in1 (Cy (.ref x) (.ref 71) (.str name tk) name v b)
   (λ fin s'=>match fin with | .done f=>R (.ok f) s' | .again c'=>c'.quiet=W8/\codeAny (ag pw w) A c' R s') (λ e s'=>R (.error e) s') s):
  codeAny (ag pw w) A (.call (.builtin "object.__setattr__") ⟨[.ref x, .str name tk,v], []⟩) R s:=by
 have SF:=PySem.F.store_object;have hC:=X _ _ (lU P);have sub:Looks (ag pw w) s.heap (isInstance (.ref x) (.type "object")) W8:=I.type.andThen (looks_mroIn X (by kernel_rfl))
 refine codeAny_call_builtin SF.slot.plain SF.entry (@check_slot (ag pw w) _ _ s "object.__setattr__" "object" "__setattr__" (.ref x) [.str name tk,v] [] _ SF.kind SF.split sub (SF.args (.ref x) (.str name tk) v) ?_);refine aj (bO.mp ht) λ attr ha hr=> ?_;have hm:Looks (ag pw w) s.heap (mroOf (.ref 71)) (.ref 71::gB):= ((Looks.ld (part:=W7) hC).andThen .now).andThen .now;have L3:Looks (ag pw w) s.heap (PySem.Builtin.ObjectAttr.storeTaker? attr) W7:=by
  induction attr with
  | none=>exact .now
  | some a=>
   refine aj (ez.mp hr) λ b hb hbb=> ?_;refine(looks_takesIn X hb).andThen ?_;induction b
   ·exact .now
   ·contradiction
 rw[osa_eq,refuse_eq];refine aB (aB (I.type.here (aB (hm.here ?_))));rw[refuseLoop_ref,refuseLoop_ref,PySem.F.store_Exception.passes];refine bW (aB (I.type.here (aB ((looks_findIn X ha).here (aB (L3.here ?_))))));exact h _
theorem wU(D:s.heap.get? dx=W6 (dictOf es n))(hl:(getL name es).isSome=W8)(hz:es.length<=900)
  (hq:Q () { s with heap:=s.heap.update dx (kC name (f7 w.params name) (.str name s.toks) v),toks:=s.toks+1 }):
  aC (ag prog w) A (nsSet dx name v) (λ _ s'=>aC (ag prog w) A (lookBehind dx (W6 (.str name 0))) Q E s') E s:=by
 have e:kC name (f7 w.params name) (.str name s.toks) v (dictOf es n)=dictOf (putL name (f7 w.params name) (.str name s.toks) v es) (putN name es n):=putName_dict ..;have D':(s.heap.update dx (kC name (f7 w.params name) (.str name s.toks) v)).get? dx=W6 (dictOf (putL name (f7 w.params name) (.str name s.toks) v es) (putN name es n)):=by
  rw[←e];exact mZ _ D (by rw[e];rfl)
 have hz':(putL name (f7 w.params name) (.str name s.toks) v es).length<=es.length+1:=by
  clear D D' e hl hz hq
  induction es with
  | nil=>exact ba _
  | cons a r ih=>
   unfold putL
   split
   ·exact Nat.le_succ _
   ·exact Nat.succ_le_succ ih
 unfold nsSet;refine aB (aB (wpAny_askSetting (bW (aB (wpAny_mkText (aB (wpAny_loadPart D ?_)))))));dsimp only;have c:(!(es.toArray).any (·.key.isStr name) && (es.toArray).any (·.refKey))=W9:=by
  rw[←Array.any_toList,←Array.any_toList];unfold getL at hl
  split at hl
  ·rename_i en he
   rw[m8.mpr ⟨en,List.mem_of_find?_eq_some he,List.find?_some he⟩];rfl
  ·split at hl
   ·contradiction
   ·rename_i z;rw[Bool.not_eq_true]at z;show (_ && es.any _)=W9;rw[z,Bool.and_false]
 rw[aRefKeyMayBeTheName_at,c];refine wpAny_updatePart D ?_;exact wpAny_lookBehind D' (pastItsLine_dict (by rw[List.size_toArray,gT];lia)) hq
noncomputable def E_:ClassData:={ name:= "WireFault",bases:= [.ref 46],mro:= .ref 71::gB,ns:=70,qualname:= "WireFault",hasDict:=W8,slotNames:= [],subclasses:= [],abstract:=W9,collection:=W7,hasDel:=W9 }
theorem wV(X:(K0 P).In h):Looks M h (classData 71) E_:=looks_clsIn X (by kernel_rfl)
theorem Fb(X:(K0 P).In s.heap)(hx:s.heap.get? x=W6 ⟨.ref 71,W6 dx, .fields vs,sl⟩)(hd:s.heap.get? dx=W6 (dictOf es n))
  (ht:takerIn (K0 P) 71 name=W6 W7) (hl:(getL name es).isSome=W8) (hz:es.length<=900)
  (hq:Q () { s with heap:=s.heap.update dx (kC name (f7 w.params name) (.str name (s.toks+1)) v),toks:=s.toks+1+1 }):aC (ag pw w) A (setAttr (.ref x) name v) Q E s:=by
 have I:W.InstAt s.heap x ⟨.ref 71,W6 dx, .fields vs,sl⟩ 71 (W6 (dictOf es n)):=⟨hx,rfl,rfl,hd⟩;refine set_plain X I (by kernel_rfl) (wR (P:=P) (s:={ s with toks:=s.toks+1 }) X I ht λ b=> ?_)
 unfold Cy Builtin.ObjectAttr.ownDictForStores instanceDict;refine aB (bW (aB (aB (wpAny_loadPart hx (aB (wV X _ _ _ _ (λ _ _ e=>e) ?_))))));refine bW (a:=W6 dx) (aB (bW ?_));refine aB (el (wU (s:={ s with toks:=s.toks+1 }) (Q:=λ _ s'=>s'={ s with heap:=s.heap.update dx (kC name (f7 w.params name) (.str name (s.toks+1)) v),toks:=s.toks+1+1 }) hd hl hz rfl) (λ _ s' h=> ?_) λ _ _ x=>x)
 refine aB (el h (λ _ s'' e=> ?_) λ _ _ x=>x);subst e;exact bW hq
theorem Fc(X:(K0 P).In s.heap)(hx:s.heap.get? x=W6 ⟨.ref 71,W7, .fields vs, #[]⟩)
  (ht:takerIn (K0 P) 71 name=W6 W7)
  (hq:Q () { s with heap:= ((s.heap.push fN).update x (λ o=> { o with dict:=W6 s.heap.objs.size })).update s.heap.objs.size (kC name (f7 w.params name) (.str name (s.toks+1)) v),toks:=s.toks+1+1 }):aC (ag pw w) A (setAttr (.ref x) name v) Q E s:=by
 have I:W.InstAt s.heap x ⟨.ref 71,W7, .fields vs, #[]⟩ 71 W7:=⟨hx,rfl,rfl,trivial⟩;have hlt:=ed hx;refine set_plain X I (by kernel_rfl) (wR (P:=P) (s:={ s with toks:=s.toks+1 }) X I ht λ b=> ?_)
 unfold Cy Builtin.ObjectAttr.ownDictForStores instanceDict;refine aB (bW (aB (aB (wpAny_loadPart hx (aB (wV X _ _ _ _ (λ _ _ e=>e) ?_))))));have hx':(s.heap.push fN).get? x=W6 ⟨.ref 71,W7, .fields vs, #[]⟩:=dt _ hx;show aC _ _ (alloc fN >>=λ d=>update x (λ o=> { o with dict:=W6 d }) >>=λ _=>dictMade (.ref 71) x d) _ _ _
 refine aB (wpAny_alloc (aB (wpAny_update hx' (bW (a:=W6 s.heap.objs.size) (aB (bW ?_))))));have hd:((s.heap.push fN).update x (λ o=> { o with dict:=W6 s.heap.objs.size })).get? s.heap.objs.size=W6 (dictOf [] 0):=by
  refine(mY _ _ (fj hlt)).trans (fx _ rfl)
 refine aB (el (wU (s:={ s with heap:= (s.heap.push fN).update x (λ o=> { o with dict:=W6 s.heap.objs.size }),toks:=s.toks+1 }) (Q:=λ _ s'=>s'={ s with heap:= ((s.heap.push fN).update x (λ o=> { o with dict:=W6 s.heap.objs.size })).update s.heap.objs.size (kC name (f7 w.params name) (.str name (s.toks+1)) v),toks:=s.toks+1+1 }) hd rfl (Nat.zero_le _) rfl) (λ _ s' h=> ?_) λ _ _ x=>x)
 refine aB (el h (λ _ s'' e=> ?_) λ _ _ x=>x);subst e;exact bW hq
end
end
section
open PySem.Calls
section
variable{w:aQ}{A:dj}{E:Tv}{s:aw}{h:bS}{g:Array GenState}{d:Drawn}{t:Nat}{os:OsState}
theorem Fd(hC:h.get? 71=W6 gW)(he:h.get? x=W6 ox)(VE:ox.cls= .ref 71)(hq:Q () ⟨h,g,d,t,os⟩):
  aC M A (ko "Exception.__init__" ⟨.ref x::rest, []⟩) Q E ⟨h,g,d,t,os⟩:=by
 have F:=rg;have hcB:(di 71::gB).contains (.type "Exception")=W8:=by decide+kernel
 have hshort:=F.noStar;unfold ko;rw[F.initKind,F.initSplit,F.initRow];dsimp only
 repeat (first | (with_reducible refine jC he ?_;rw[VE]) | with_reducible refine jC hC ?_ | (with_reducible refine oV hC ?_;rw[hcB]) | wp_step)
 refine wpAny_onRaise ?_;rw[show ∀(a b:String) (n:Nat),Bind.check ⟨.positional, "*", "Exception", .self, [⟨"args", .varPos,W9⟩]⟩ a b n (dK (λ x=>x.fst) ({ pos:=di x::rest }:Args).kw)=pure () from
  λ a b n=>check_star_args _ _ _ _ _ _]
 exact bW hq
theorem Fe(hC:h.get? 71=W6 gW)(he:h.get? x=W6 ⟨.ref 71,W7, .fields vs, #[]⟩)(hsz:vs.size=6)(hr:rest.length<=sizeLine)
  (hq:Q .none ⟨(h.push (fU rest)).update x (i9 (·.setIfInBounds 0 (.ref h.objs.size))),g,d,t,os⟩):aC (ag pw w) A (call (.builtin "Exception.__init__") (.ref x::rest)) Q E ⟨h,g,d,t,os⟩:=by
 have F:=rg;refine wpAny_call (codeAny_call_builtin F.init.plain F.initEntry (Fd hC he rfl ?_));unfold Builtin.«BaseException.__init__»;have he':(h.push (fU rest)).get? x=W6 ⟨.ref 71,W7, .fields vs, #[]⟩:=dt _ he;have h0:vs[0]? =W6 vs[0]:=by simp[hsz]
 show aC _ _ (newTuple rest >>=λ tv=>Builtin.BaseException.bexcPut (.ref x) 0 tv >>=λ _=>ret .none) _ _ _;unfold newTuple;refine aB (oX ?_ hr);unfold Builtin.BaseException.bexcPut;refine aB (aB (ig he' rfl h0 (aB (wpAny_setField he' rfl (by rw[hsz];decide) ?_))))
 have fin:aC (ag pw w) A.in1 (ret ja) (λ fin s'=>match fin with
   | .done f=>(match (Except.ok f:Result) with
    | .ok (.ret v)=>Q v s'
    | .ok _=>False
    | .error e=>E e s')
   | .again c'=>c'.quiet=W8/\codeAny (ag pw w) A c' (λ r s'=>match r with
    | .ok (.ret v)=>Q v s'
    | .ok _=>False
    | .error e=>E e s') s') (λ e s'=>E e s') ⟨(h.push (fU rest)).update x (i9 (·.setIfInBounds 0 (.ref h.objs.size))),g,d,t,os⟩:=bW hq
 induction vs[0] with
 | ref a=>exact wpAny_letGo fin
 | _=>exact bW fin
theorem Ff(F:Fr h₀ L s.heap m)(X:(K0 P).In h₀)(q:Q (.builtin "Exception.__init__", []) { s with toks:=s.toks+1 }):
  aC (ag pw w) A (getMethod (.type "Exception") "__init__" pl) Q E s:=
 method_type F X (by kernel_rfl) (by kernel_rfl) (v:= .builtin "Exception.__init__") (by kernel_rfl) (by kernel_rfl) q
end
end
section
open PySem.Calls
section
variable{M:Model}{A:dj}{E:Tv}{s:aw}{env:Env}
theorem wW(hh:A.handled=W7)
  (h:ai M A x (λ v s₁=>∃e d vs,v= .ref e/\s₁.heap.get? 71=W6 gW/\s₁.heap.get? e=W6 ⟨.ref 71,W6 d, .fields vs, #[]⟩/\vs[1]? =W6 .none/\E (.ref e) s₁) E s):
  ai M A (raiseStmt env (W6 x) W7) Q E s:=by
 have hcB:(di 71::gB).contains (.type "BaseException")=W8:=by decide+kernel
 unfold raiseStmt;refine aA (aK h (λ v s₁ h₁=>toG ?_) λ _ _ x=>x);revert h₁;refine kE λ e d vs Tp hC he h1 hE=> ?_;subst Tp;obtain⟨hp,g,dr,tk,os⟩:=s₁;have fin:aC M A (do setFlight (.ref e) W7;(raiseNew (.ref e):Sem Flow)) Q E ⟨hp,g,dr,tk,os⟩:=by
  unfold setFlight;refine aB (aB (ig he rfl h1 ?_));exact bW (wpAny_raiseNew_none hh hE)
 repeat (first | exact fin | with_reducible refine jC he ?_ | with_reducible refine jC hC ?_ | (with_reducible refine oV hC ?_;rw[hcB]) | wp_step)
theorem Fg(hh:A.handled=W7)
  (h:ai M A (aZ x env) (λ v s₁=>∃e d vs,v= .ref e/\s₁.heap.get? 71=W6 gW/\s₁.heap.get? e=W6 ⟨.ref 71,W6 d, .fields vs, #[]⟩/\vs[1]? =W6 .none/\E (.ref e) s₁) E s):
  ai M A (exec (.Raise (W6 x) W7 pos) env) Q E s:=by
 rw[arm_exec_Raise]
 first
  | exact b9 (wW hh (aA (aK h (λ v s₁ h₁=>b9 (aT h₁)) λ _ _ x=>x)))
  | (simp only[evalOpt,Option.map];exact b9 (wW hh (aA (aK h (λ v s₁ h₁=>b9 (aT h₁)) λ _ _ x=>x))))
end
end
section
open PySem.Calls
section
variable{w:aQ}{A:dj}{E:Tv}{s:aw}
theorem Fi(X:(K0 P).In s.heap)(hx:s.heap.get? x=W6 (gV dx vs))(hd:s.heap.get? dx=W6 (dictOf es n))
  (hf:∃a,eX (K0 P) (.ref 71) name=W6 a/\noGet (K0 P) a=W8) (hl:getL name es=W6 (W6 v)) (hh:handedIn v=W8) (hq:Q v { s with toks:=s.toks+1 }):aC (ag pw w) A (getAttr (.ref x) name ex) Q E s:=by
 revert hf;refine b7 λ at_ hf hn=> ?_;have I:W.InstAt s.heap x (gV dx vs) 71 (W6 (dictOf es n)):=⟨hx,rfl,rfl,hd⟩;have FO:findObj (K0 P) 71 (W6 (dictOf es n)) name=W6 (.value v):=findObj_own (by kernel_rfl) hf hn hl
 obtain⟨h,g,d,t,os⟩:=s;have L0:=I.type (M:=ag pw w);have L1:=looks_findIn (M:=ag pw w) X (show eX (K0 P) (.ref 71) "__getattribute__" =W6 (W6 (.builtin "BaseException.__getattribute__")) by kernel_rfl)
 have L2:=looks_findIn (M:=ag pw w) X (show eX (K0 P) (.ref 71) "__getattr__" =W6 W7 by kernel_rfl)
 have L3:=looks_find (M:=ag pw w) X I FO;have L4:Looks (ag pw w) h (isInstance (.ref x) (.type "BaseException")) W8:=I.type.andThen (looks_mroIn X (by kernel_rfl))
 unfold getAttr getAttrBy;refine aB (wpAny_mkText (f9 (aB (L0.at (aB (L1.at ?_))))));show aC _ _ (getAttrByItsOwn _ _ _ _ _ _) _ _ _;unfold getAttrByItsOwn hookBefore callGetattribute boundAndCalled;refine aB (show aC _ _ (typeLookup (.ref 71) "__getattr__") _ _ _ from L2.at ?_)
 have hx0:(ex && onTheHeap (az.builtin "BaseException.__getattribute__"))=W9:=by induction ex <;> rfl
 rw[hx0];refine aB (wpAny_attempt (f9 (aB (eO (F.excAttr_ValueError.ga.bind (.ref x)) ?_))));show aC _ _ (call (.builtin "BaseException.__getattribute__") [.ref x, .str name t]) _ _ _;have hk:builtinKind "BaseException.__getattribute__" =W6 .slot:=by decide+kernel
 have hsp:splitId "BaseException.__getattribute__" =W6 ("BaseException", "__getattribute__"):=by decide+kernel
 have ha:=F.args_bexc_ga (.ref x) (.str name t);have L5:Looks (ag pw w) (aw.mk h g d (t+1) os).heap (isInstance (.ref x) (.type "BaseException")) W8:=L4;refine wpAny_call ?_;refine codeAny_call_builtin F.excAttr_ValueError.ga.plain F.entry_bexc_ga (@check_slot (ag pw w) _ _ _ "BaseException.__getattribute__" "BaseException" "__getattribute__" (.ref x) [.str name t] [] _ hk hsp L5 ha ?_);show aC _ _ (Builtin.«object.__getattribute__» _) _ _ _;refine aB (bW (aB (bW (aB (L0.at (aB (L3.at ?_)))))));refine bW ?_;show aC _ _ (handedOut v) _ _ _;rw[handedOut_of hh];exact bW hq
end
end
section
open PySem.Calls
section
variable{M:Model}{A:dj}{E:Tv}{s:aw}{env:Env}
theorem Fj(hC:s.heap.get? 71=W6 gW)(he:s.heap.get? e=W6 (gV d vs))(q:Q W8 s):aC M A (excMatches (.ref e) (.ref 71)) Q E s:=by
 have hcB:(di 71::gB).contains (.type "BaseException")=W8:=by decide+kernel
 have hcT:(di 71::gB).contains (.ref 71)=W8:=by decide+kernel
 have h1:isSubtype gW.cls (.type "tuple")=pure W9:=by show isSubtype (.type "type") _=_;rw[isSubtype_type];kernel_rfl
 have h2:isSubtype gW.cls (.type "type")=pure W8:=by show isSubtype (.type "type") _=_;rw[isSubtype_type];kernel_rfl
 obtain⟨hp,g,dr,tk,os⟩:=s;unfold excMatches
 repeat (first | exact q | with_reducible refine eO h1 ?_ | with_reducible refine eO h2 ?_ | with_reducible refine jC he ?_ | with_reducible refine jC hC ?_ | (with_reducible refine oV hC ?_;first | rw[hcB] | rw[hcT]) | wp_step)
end
end
section
open PySem.Calls
section
variable{w:aQ}{A:dj}{E:Tv}{s:aw}{env:Env}
theorem Fk:entryFor table "proto.unchain" =W6 Builtin.«proto.unchain» :=entryFor_of_tree (by kernel_rfl)
theorem Fl(ho:s.heap.get? h=W6 oh)(hd:oh.data= .fields vs)(h2:vs[2]? =W6 .none)(q:Q .none s):
  aC (ag pw w) A (runValue (.builtin "proto.unchain" ⟨[.ref e, .ref h, .ref h, .bool W9], []⟩)) Q E s:=by
 refine wpAny_runValue (codeAny_builtin Fk ?_);unfold Builtin.«proto.unchain»;refine aB (ig ho hd h2 ?_)
 first
  | exact aB (bW (bW q))
  | exact bW (bW q)
  | exact bW q
  | (rw[if_pos rfl];exact aB (bW (bW q)))
theorem wX(hh:A.handled=W6 (.ref h))(TT:h≠e)(ho:s.heap.get? h=W6 oh)(hd:oh.data= .fields vs)(h2:vs[2]? =W6 .none)
  (he:s.heap.get? e=W6 oe) (hde:oe.data= .fields us) (hsz:2<us.size) (q:E (.ref e) { s with heap:=s.heap.update e (i9 (·.setIfInBounds 2 (.ref h))) }):aC (ag pw w) A (raiseNew (.ref e):Sem α) Q E s:=by
 unfold raiseNew;refine aB (wpAny_handled ?_);rw[hh];simp only;rw[if_pos (show (di h !=di e)=W8 from bne_iff_ne.mpr λ x=>TT (by injection x))]
 refine aB (f9 (Fl ho hd h2 ?_));exact aB (wpAny_setField (a:=e) he hde hsz (wpAny_throw q))
theorem wY(hh:A.handled=W6 (.ref h))
  (k:ai (ag pw w) A x (λ v s₁=>∃e d vs oh us,v= .ref e/\s₁.heap.get? 71=W6 gW/\s₁.heap.get? e=W6 ⟨.ref 71,W6 d, .fields vs, #[]⟩/\vs[1]? =W6 .none/\2<vs.size/\h≠e/\s₁.heap.get? h=W6 oh/\oh.data= .fields us/\us[2]? =W6 .none/\
   E (.ref e) { s₁ with heap:=s₁.heap.update e (i9 (·.setIfInBounds 2 (.ref h))) }) E s):
  ai (ag pw w) A (raiseStmt env (W6 x) W7) Q E s:=by
 have hcB:(di 71::gB).contains (.type "BaseException")=W8:=by decide+kernel
 unfold raiseStmt;refine aA (aK k (λ v s₁ h₁=>toG ?_) λ _ _ x=>x);revert h₁;refine CL λ e d vs oh us zq5 hC he h1 h2 TT ho hd h3 hE=> ?_;subst zq5;obtain⟨hp,g,dr,tk,os⟩:=s₁;have fin:aC (ag pw w) A (do setFlight (.ref e) W7;(raiseNew (.ref e):Sem Flow)) Q E ⟨hp,g,dr,tk,os⟩:=by
  unfold setFlight;refine aB (aB (ig he rfl h1 ?_));exact bW (wX hh TT ho hd h3 he rfl h2 hE)
 repeat (first | exact fin | with_reducible refine jC he ?_ | with_reducible refine jC hC ?_ | (with_reducible refine oV hC ?_;rw[hcB]) | wp_step)
theorem Fm(hh:A.handled=W6 (.ref h))
  (k:ai (ag pw w) A (aZ x env) (λ v s₁=>∃e d vs oh us,v= .ref e/\s₁.heap.get? 71=W6 gW/\s₁.heap.get? e=W6 ⟨.ref 71,W6 d, .fields vs, #[]⟩/\vs[1]? =W6 .none/\2<vs.size/\h≠e/\s₁.heap.get? h=W6 oh/\oh.data= .fields us/\us[2]? =W6 .none/\
   E (.ref e) { s₁ with heap:=s₁.heap.update e (i9 (·.setIfInBounds 2 (.ref h))) }) E s):
  ai (ag pw w) A (exec (.Raise (W6 x) W7 pos) env) Q E s:=by
 rw[arm_exec_Raise]
 first
  | exact b9 (wY hh (aA (aK k (λ v s₁ h₁=>b9 (aT h₁)) λ _ _ x=>x)))
  | (simp only[evalOpt,Option.map];exact b9 (wY hh (aA (aK k (λ v s₁ h₁=>b9 (aT h₁)) λ _ _ x=>x))))
end
end
section
open PySem.Calls
section
variable{w:aQ}{A:dj}{E:Tv}{s:aw}
theorem Fo(hh:A.handled=W6 (.ref h))(ho:s.heap.get? h=W6 oh)(hd:oh.data= .fields vs)(h2:vs[2]? =W6 .none)(TT:h≠it)
  (hit:s.heap.IsTupleIter it t i) (ht:s.heap.IsTuple t items) (hx:items[i]? =W7)
  (hQ:∀h',bS.ExtBut it s.heap h'->Q W7 { s with heap:=h' }):aC (ag pw w) A (pyNext (.ref it)) Q E s:=by
 refine cO (id hit) λ o hi hc hdi=> ?_;revert ht;refine CG λ ol WJ _ nl hdl=> ?_;unfold pyNext;refine aB (wpAny_attempt (wpAny_callSpecial?_slot (name:= "__next__") hit.typeIs F.slot_tuple_iterator_next
  (wpAny_call_entry F.slot_tuple_iterator_next hit.typeIs F.entry_tuple_iterator_next ?_ (F.args_tuple_iterator_next_1 _))))
 show aC _ _ (field (.ref it) 0 >>=_) _ _ s;refine aB (ig hi hdi (x:= .ref t) rfl ?_);show aC _ _ (if (di t==ja)=W8 then _ else _) _ _ s
 rw[if_neg (show ¬ ((di t==ja)=W8) from Bool.false_ne_true)]
 show aC _ _ (field (.ref it) 1 >>=_) _ _ s;refine aB (ig hi hdi (x:= .int i 0) rfl ?_);show aC _ _ (seqItems? (.ref t) >>=_) _ _ s;refine aB (wpAny_seqItems WJ hdl ?_);simp only[Int.toNat_natCast,hx];refine aB (wpAny_rule (aB (wpAny_setField hi hdi (by simp) ?_)))
 show aC _ _ (newExc (.type "StopIteration") [] >>=_) _ _ _;refine aB ?_;simp only[newExc,newTuple];refine aB (oX ?_ (by size_fits))
 refine aB (m:=firstArgMember _ _) (eO (a:=ja) (by first | rfl | (simp only[firstArgMember];rfl)) ?_)
 refine oX ?_ (by size_fits)
 generalize hH:(bS.push (bS.update s.heap it _) _)=H
 have hsub:bS.ExtBut it s.heap H:=by rw[←hH];exact((bS.SameBut.update ..).extBut.push _)
 have hho:H.get? h=W6 oh:=hsub h oh TT ho;have hlt:h<H.objs.size:=ed hho;refine wX (h:=h) (oh:=oh) (vs:=vs) hh (fj hlt) (dt _ hho) hd h2 (fx _ rfl) rfl (by simp;exact Nat.le_add_left _ _) ?_
 refine aB (wpAny_isInstance (T:= "StopIteration") (b:=W8) ⟨_,mZ _ (fx _ rfl) rfl,rfl⟩ isSubtype_stop ?_);refine bW (hQ _ λ b o hb e=> ?_);have:=hsub b o hb e;rw[mY _ _ (Nat.ne_of_gt (ed this))];exact dt _ this
end
theorem wZ(hh:A.handled=W6 (.ref h))(hd:oh.data= .fields vs)(h2:vs[2]? =W6 .none)(I ax:ak)(TT:ax≠I)(WN:h≠I)(items:Array az):
  Walks pw w A I [I,ax,h] [I] items.size (λ i v=>items[i]? =W6 v) (λ i hp=>hp.IsTupleIter I ax i/\hp.IsTuple ax items/\hp.get? h=W6 oh) where
 sub:=λ b hb=>by simp at hb;simp[hb]
 frame:=λ _ _ _ st hk=>⟨st.1.at λ o e=>hk I (by simp) o e,st.2.1.at λ o e=>hk ax (by simp) o e,hk h (by simp) _ st.2.2⟩
 item:=λ i s Q E hi st hQ=>by
  refine wpAny_pyNext_tuple_item st.1 st.2.1 (x:=items[i]) (by simp[hi]) λ h' Us T_=> ?_
  exact hQ _ h' s.toks (by simp[hi]) ⟨Us,st.2.1.extBut T_.extBut TT,T_.extBut h oh WN st.2.2⟩ λ b o hb e=>T_.extBut b o (λ q=>hb (by simp[q])) e
 done:=λ s Q E st hQ=>Fo hh st.2.2 hd h2 WN st.1 st.2.1 (by simp) λ h' he'=>hQ h' s.toks λ b o hb e=>he' b o (λ q=>hb (by simp[q])) e
 self:=λ _ _ _ _ st hQ=>wpAny_pyIter_tupleiter st.1 hQ
theorem Fp(hh:A.handled=W6 (.ref h))(ho:s.heap.get? h=W6 oh)(hd:oh.data= .fields vs)(h2:vs[2]? =W6 .none)
  (q:∀h' tk,(∀c o,s.heap.get? c=W6 o->h'.get? c=W6 o)->Q (.int (if b>a then b else a) (if b>a then u else t)) { s with heap:=h',toks:=tk }):
  aC (ag pw w) A (call (.builtin "max") [.int a t, .int b u]) Q E s:=by
 have hT:(s.heap.push { cls:= .type "tuple",data:= .seq #[.int a t, .int b u] }).IsTuple s.heap.objs.size (fQ #[(a,t),(b,u)]):=⟨_,fx _ rfl,rfl,0,by simp[fQ]⟩
 refine call_max_two (wpAny_pyIter_tuple hT ?_);have hsz:(s.heap.push { cls:= .type "tuple",data:= .seq #[.int a t, .int b u] }).objs.size=s.heap.objs.size+1:=iG ..;have hlt:=ed ho;refine⟨_, [_,s.heap.objs.size,h], [_],_,_,_,_,rfl,wZ (A:=A.in1) hh hd h2 _ s.heap.objs.size (by rw[hsz];exact fj (ic _)) (by rw[hsz];exact fj (jD hlt)) (fQ #[(a,t),(b,u)]),
  ⟨⟨_,fx _ rfl,rfl,rfl⟩,hT.push _,dt _ (dt _ ho)⟩,λ c hc=> ?_,by simp[fQ],CmpOf.ints_gt (numAt #[(a,t),(b,u)]) (λ _ _=>intItems_at),λ v h' tk hP hk=> ?_⟩
 ·show c<((s.heap.push _).push _).objs.size
  rw[iG,hsz];rcases bR.mp hc with rfl | hc
  ·rw[hsz];exact ic _
  ·rcases bR.mp hc with rfl | hc
   ·exact jD (ic _)
   ·rw[dI.mp hc];exact jD (jD hlt)
 ·have hold:∀c o,s.heap.get? c=W6 o->h'.get? c=W6 o:=λ c o e=>by
   refine hk c o (λ hm=> ?_) (dt _ (dt _ e));rcases bR.mp hm with e1 | hm
   ·have:=ed e;rw[e1,hsz]at this;exact gR _ (Nat.lt_of_succ_lt this)
   ·cases hm
  have:=q h' tk hold;have hv:v=az.int (if b>a then b else a) (if b>a then u else t):=by
   have hP':(fQ #[(a,t),(b,u)])[argBest (λ i j=>decide (numAt #[(a,t),(b,u)] i>numAt #[(a,t),(b,u)] j)) 1]? =W6 v:=by
    have hsz2:(fQ #[(a,t),(b,u)]).size - 1=1:=by simp[fQ]
    rw[←hsz2];exact hP
   by_cases VG:b>a
   ·have e:argBest (λ i j=>decide (numAt #[(a,t),(b,u)] i>numAt #[(a,t),(b,u)] j)) 1=1:=by simp[argBest,numAt,VG]
    rw[e]at hP'
    simpa[fQ,VG] using hP'.symm
   ·have e:argBest (λ i j=>decide (numAt #[(a,t),(b,u)] i>numAt #[(a,t),(b,u)] j)) 1=0:=by simp[argBest,numAt,VG]
    rw[e]at hP'
    simpa[fQ,VG] using hP'.symm
  rw[hv];exact this
theorem Fq(hh:A.handled=W6 (.ref h))(ho:s.heap.get? h=W6 oh)(hd:oh.data= .fields vs)(h2:vs[2]? =W6 .none)
  (q:∀h' tk,(∀c o,s.heap.get? c=W6 o->h'.get? c=W6 o)->Q (.int (if b<a then b else a) (if b<a then u else t)) { s with heap:=h',toks:=tk }):
  aC (ag pw w) A (call (.builtin "min") [.int a t, .int b u]) Q E s:=by
 have hT:(s.heap.push { cls:= .type "tuple",data:= .seq #[.int a t, .int b u] }).IsTuple s.heap.objs.size (fQ #[(a,t),(b,u)]):=⟨_,fx _ rfl,rfl,0,by simp[fQ]⟩
 refine call_min_two (wpAny_pyIter_tuple hT ?_);have hsz:(s.heap.push { cls:= .type "tuple",data:= .seq #[.int a t, .int b u] }).objs.size=s.heap.objs.size+1:=iG ..;have hlt:=ed ho;refine⟨_, [_,s.heap.objs.size,h], [_],_,_,_,_,rfl,wZ (A:=A.in1) hh hd h2 _ s.heap.objs.size (by rw[hsz];exact fj (ic _)) (by rw[hsz];exact fj (jD hlt)) (fQ #[(a,t),(b,u)]),
  ⟨⟨_,fx _ rfl,rfl,rfl⟩,hT.push _,dt _ (dt _ ho)⟩,λ c hc=> ?_,by simp[fQ],CmpOf.ints_lt (numAt #[(a,t),(b,u)]) (λ _ _=>intItems_at),λ v h' tk hP hk=> ?_⟩
 ·show c<((s.heap.push _).push _).objs.size
  rw[iG,hsz];rcases bR.mp hc with rfl | hc
  ·rw[hsz];exact ic _
  ·rcases bR.mp hc with rfl | hc
   ·exact jD (ic _)
   ·rw[dI.mp hc];exact jD (jD hlt)
 ·have hold:∀c o,s.heap.get? c=W6 o->h'.get? c=W6 o:=λ c o e=>by
   refine hk c o (λ hm=> ?_) (dt _ (dt _ e));rcases bR.mp hm with e1 | hm
   ·have:=ed e;rw[e1,hsz]at this;exact gR _ (Nat.lt_of_succ_lt this)
   ·cases hm
  have:=q h' tk hold;have hv:v=az.int (if b<a then b else a) (if b<a then u else t):=by
   have hP':(fQ #[(a,t),(b,u)])[argBest (λ i j=>decide (numAt #[(a,t),(b,u)] i<numAt #[(a,t),(b,u)] j)) 1]? =W6 v:=by
    have hsz2:(fQ #[(a,t),(b,u)]).size - 1=1:=by simp[fQ]
    rw[←hsz2];exact hP
   by_cases VG:b<a
   ·have e:argBest (λ i j=>decide (numAt #[(a,t),(b,u)] i<numAt #[(a,t),(b,u)] j)) 1=1:=by simp[argBest,numAt,VG]
    rw[e]at hP'
    simpa[fQ,VG] using hP'.symm
   ·have e:argBest (λ i j=>decide (numAt #[(a,t),(b,u)] i<numAt #[(a,t),(b,u)] j)) 1=0:=by simp[argBest,numAt,VG]
    rw[e]at hP'
    simpa[fQ,VG] using hP'.symm
  rw[hv];exact this
end
section
open PySem.Calls
theorem Fs{f:Code×Pos->Bool}{l:List (Code×Pos)}(h:∀x∈l,(f x || false)=W9):l.any f=W9:=
 List.any_eq_false.mpr λ x hx e=>by
  have:=h x hx;rw[e]at this;contradiction
section
variable{M:Model}{w:aQ}{A:dj}{E:Tv}{s:aw}
theorem w3{Q:Bool->aw->Prop}(h:Q W9 s):ai M A (Builtin.Bytes.exported v) Q E s:=λ Γ p TO g=>by
 show Q (((Γ.code,p)::Γ.below).any _) s;rw[Fs λ x hx=>show pb v [(x.1,x.2)]=W9 from ?_]
 ·exact h
 ·rcases bR.mp hx with rfl | hx
  ·exact g.1 v _
  ·exact g.2 x hx v _
noncomputable def eY(b:Array UInt8):Obj:={ cls:= .type "bytearray",data:= .bytearray b }
theorem w4(ho:s.heap.get? a=W6 (eY b))(h:Q 0 s):aC M A (uQ (.ref a)) Q E s:=by
 unfold uQ;exact aB (wpAny_load ho (bW h))
theorem w5(ho:s.heap.get? a=W6 (eY b))(hsz:(f b).size<=sizeLine)
  (h:Q () { s with heap:=s.heap.update a (m9 f) }):aC M A (Builtin.Bytes.write (.ref a) f) Q E s:=by
 show aC _ _ (updateBytearray a f) _ _ _;unfold updateBytearray;refine aB (wpAny_load ho ?_);show aC _ _ (update a (m9 f) >>=λ _=>lookBehind a) _ _ _;refine aB (wpAny_update ho ?_);have hS:(s.heap.update a (m9 f)).get? a=W6 (eY (f b)):=mZ _ ho rfl;refine wpAny_lookBehind hS ?_ h;show (if (f b).size>sizeLine then W6 "bytearray:memory" else W7)=W7
 rw[if_neg (by lia)]
end
theorem w6:mroOf (.type "bytearray")=pure [.type "bytearray", .type "object"]:=by rw[mroOf_type];kernel_rfl
theorem Ft:typeLookup (.type "bytearray") "__new__" =pure (W6 (.builtin "bytearray.__new__")):=by rw[kz,km];kernel_rfl
theorem Fu:Slot "bytearray" "__init__" "bytearray.__init__" :=
 .of (owner:= "bytearray") (n:= "__init__") (by rw[kz,km];kernel_rfl) (by decide+kernel) (by decide+kernel) (by decide+kernel)
  (by first | exact .inl (by decide+kernel) | exact .inr (by decide+kernel)) (by rw[isSubtype_type];kernel_rfl)
theorem Fv:TypeCalled "bytearray" "bytearray.__new__" "bytearray.__init__" :=
 ⟨by decide+kernel,by decide+kernel,⟨_,_,w6⟩,madeBy_type w6 Ft (by decide+kernel),by decide+kernel,by rw[isSubtype_type];kernel_rfl,Fu⟩
theorem Fw:checkTypeCall "bytearray" ⟨[], []⟩=pure ():=by kernel_rfl
theorem Fx:ko "bytearray.__new__" ⟨[.type "bytearray"], []⟩=pure ():=by kernel_rfl
theorem Fy:entryFor table "bytearray.__new__" =W6 Builtin.«list.__new__» :=entryFor_alias (id':= "list.__new__") (by kernel_rfl) (by decide+kernel) (by decide+kernel) (by kernel_rfl)
theorem Fz:entryFor table "bytearray.__init__" =W6 Builtin.«bytearray.__init__» :=by first | exact entryFor_of_fast (by kernel_rfl) | exact entryFor_of_tree (by kernel_rfl)
theorem w7:plainId "bytearray.__new__" =W8:=by decide+kernel
theorem rO:isSubtype (.type "bytearray") (.type "bytearray")=pure W8:=by rw[isSubtype_type];kernel_rfl
theorem FA:typeLookup (.type "bytearray") "__release_buffer__" =pure (W6 (.builtin "bytearray.__release_buffer__")):=by rw[kz,km];kernel_rfl
theorem FD:Builtin.Bytes.bindOptional "bytearray.__init__" "bytearray" ["source", "encoding", "errors"] [] []=pure [W7,W7,W7]:=by kernel_rfl
set_option maxRecDepth 1000000 in
set_option maxHeartbeats 4000000 in
theorem FE:("bytearray.__new__".splitOn ".__new__").headD "" = "bytearray" :=by rw[split_bytearray];rfl
section
variable{prog:Program}{w:aQ}{A:dj}{E:Tv}{s:aw}
theorem FF(h:Q₁ (.ref s.heap.objs.size) { s with heap:=s.heap.push (eY #[]) }):
  codeAny (ag prog w) A (.call (.builtin "bytearray.__new__") ⟨[.type "bytearray"], []⟩) (wants Q₁ E) s:=by
 refine codeAny_of_tree ?_;show aC _ A.in1 (do ko "bytearray.__new__" ⟨[.type "bytearray"], []⟩;again (.builtin "bytearray.__new__" ⟨[.type "bytearray"], []⟩)) _ _ s
 refine aB (eO Fx (bW ⟨plainId_quiet w7 _,codeAny_builtin_stack Fy rfl λ p st=> ?_⟩));rw[dj.under_plainId w7 _];have hsub:=rO;have hown:=FE;obtain⟨hp,g,d,tk,os⟩:=s;dsimp only;rw[hown]
 wp_walk
 exact h
end
end
theorem FG:rE (⟨.builtin "claim.caller" {},W7,W7, [],W7⟩:Ctx):=⟨Ed _,λ _ h=>nomatch h⟩
theorem FH{prog:Program}{w:aQ}{t:Sem Fin}{R:Result->aw->Prop}(hreg:s.asleep)
  (h:ai (ag prog w) callerA t (λ fin s'=>∃f,fin= .done f/\(R (.ok f) s'/\leftWithCleanup s'.gens=W9)) (λ e s'=>R (.error e) s'/\leftWithCleanup s'.gens=W9) s):
  ∃n r s' s'',runN (denote table) prog w n s ⟨t, .builtin "claim.caller" {},default, []⟩= .halted (outcomeOf r) s'/\
   schedN (denote table) prog w n (.single s ⟨t, .builtin "claim.caller" {},default, []⟩)= .halted (outcomeOf r) s'/\s'.forget=s''.forget/\R r s'':=by
 have h':Sem.wp (ag prog w) ⟨.builtin "claim.caller" {},W7,W7, [],W7⟩ t (Sem.finPost (ag prog w) ⟨.builtin "claim.caller" {},W7,W7, [],W7⟩ (λ r s'=>R r s'/\leftWithCleanup s'.gens=W9))
   (λ e _ s'=>R (.error e) s'/\leftWithCleanup s'.gens=W9) default s:=by
  refine Sem.wp_mono _ _ t (λ fin p' s' h'=> ?_) (λ _ _ _ h'=>h') default s (h _ default caller_in FG);revert h';refine b7 λ f SY hf=> ?_;subst SY;exact hf
 refine vc (wp_halts_full (M:=ag prog w) (R:=R) hreg h') λ n r s₁ SP hs hn hfo hR=> ?_;exact⟨n,r,SP,s₁,hn,hs,hfo,hR⟩
theorem FJ{r:OpenRow}{q:Program}{loose:List ab}{α:Type}{Yf:aw->α}{Ya:aQ->α}{YP:aQ->bS->Prop}{d:DefRec}{kwd:List (ab×Expr)}
  (left:LeftO r.prog q loose (λ _=>W8) Yf Ya N) (hY:∀w s,Yf s=Ya w->YP w s.heap) (hYk:∀w h h',YP w h->(∀b o,h.get? b=W6 o->h'.get? b=W6 o)->YP w h')
  (hdef:defOf q r.name=W6 (d,kwd)) (hp:r.prog.theDef r.name=W6 (d.params,d.body,d.scope)) (hk:kwWritten? d.params.kwonlyargs d.params.kw_defaults=W6 kwd) (hRf:∀s:aw,RecFacts r.records s.heap) (hwr:(!r.writes || r.records.isEmpty)=W8)
  (k1:r.wellSaid=W8) (ok:(chainsOk q && opensWell r.prog && (frees r.toRowW && r.within.isEmpty))=W8) (hb:r.prog.bare) (hw:r.toRowW.promised)
  (walk:∀(w:aQ) (Th s₁:aw) (mg mb:Tm),Ground q loose r.records (λ _ _=>True) w Th mg mb s₁.heap->YP w s₁.heap->s₁.gens= #[]->
   ∀(args:List WData) (vals:Lv) (as:Ld),r.claim.pre args=W8->WData.layableAll args=W8->ReadsAllW r.records (classAt Th.heap) s₁.heap vals args as->WellAll w.params s₁.heap vals args->
   (∀a∈as,Th.heap.objs.size<=a)->YP w Th.heap->∃f,mg r.name=W6 f/\
   ai (ag r.prog w) callerA (call f vals) (λ v s'=>GoodWG r.claim (classAt Th.heap) (ExcName.means Th.heap) args s₁ (.ok (.ret v)) s')
    (λ e s'=>GoodWG r.claim (classAt Th.heap) (ExcName.means Th.heap) args s₁ (.error e) s') s₁):r.Holds:=by
 refine aI (bE.mp ok) λ ok k5=> ?_;refine aI (bE.mp ok) λ hch o1=> ?_;refine aI (bE.mp k5) λ k5 k6=> ?_;refine o8 (frees_parts k5) λ VO hu ha hap hm=> ?_;refine⟨k1,hw,⟨hb,o1,by show r.makers.map _= [];rw[hm];rfl⟩,hw.witness,λ w=>⟨(left.behind (XP:=λ _ h=>RecFacts r.records h) (λ s _=>hRf s) hch w).1,λ s' T_=> ?_⟩⟩
 refine CQ ((left.behind (XP:=λ _ h=>RecFacts r.records h) (λ s _=>hRf s) hch w).2 s' T_) λ Th hf Wn s hT hz hgens hg G00 y=> ?_;have G0:Ground q loose [] (λ _ _=>True) w s (s.heap.nsMap ie) (s.heap.nsMap builtinsNs) s.heap:=⟨G00.T,G00.B,G00.D,G00.TE,G00.TD,G00.W,trivial,G00.cls,G00.has,G00.apart,G00.once,G00.K⟩;have RF:RecFacts r.records s.heap:=hRf s;have hT':=hT;refine⟨Th,hf,Wn,s,hT, ?_,RF.1,RF.2.1, ?_⟩
 ·intro n hn
  obtain rfl:n=r.name:=by split at hn <;> simp_all
  exact pinned_of_view hg G0 hdef hp hk
 have hgens:s.gens= #[]:=Array.eq_empty_of_size_eq_zero (beq_iff_eq.mp hgens);have G:Ground q loose r.records (λ _ _=>True) w s _ _ s.heap:=RF.ground G0;intro args TI hlay ord WI;refine hid λ GG kk=> ?_;refine cv (uP.mp (layAllW_isSome (P:=w.params) (ord:=ord) G.has args r.args s (pre_splitW TI).1)) λ Tj UF=> ?_;obtain⟨vs,s₁⟩:=Tj;have keeps:=layAllW_keeps _ _ _ UF;have hal:=layAllW_rest _ _ _ UF;refine cO (reads_layAllW WI _ _ _ UF hlay s₁.heap (λ _ _ e=>e)) λ as hrd hin hold=> ?_;have L:Laid r.records w s s₁ args vs as:=⟨⟨ord,WI,UF⟩,hrd,hin,hold,keeps,hal.1.trans hgens,hal.2.2.1⟩;have G₁:=G.keeps (λ _ _ _ x _=>x) keeps;refine aj (walk w s s₁ _ _ G₁ (hYk _ _ _ (hY w s y) keeps) L.gens args vs as TI hlay L.reads L.well (λ a ha=>(hin.2.2 a ha).1) (hY w s y)) λ f hfn h=> ?_;have hi:=ident_freeW hu ha hap;have hwi:r.claim.within= []:=List.isEmpty_iff.mp k6;have TR:ai (ag r.claim.prog w) callerA (do match ←nsGet mainNs r.name with
   | some f=>do ret (←PySem.call f vs)
   | none=>unsupported "claim.caller:no-such-global") (λ fin s'=>∃f,fin= .done f/\((r.claim.Ends s args vs s₁ (.ok f) s'/\s'.os=s.os/\(r.writes=W8->namesKept r.claim.prog r.keeps s.heap s'.heap/\∀x∈r.claim.records,∀a,classAt s.heap x.1=W6 a->recordClass s'.heap a x.1 (x.2.map (·.1))=W8))/\leftWithCleanup s'.gens=W9))
   (λ e s'=>(r.claim.Ends s args vs s₁ (.error e) s'/\s'.os=s.os/\(r.writes=W8->namesKept r.claim.prog r.keeps s.heap s'.heap/\∀x∈r.claim.records,∀a,classAt s.heap x.1=W6 a->recordClass s'.heap a x.1 (x.2.map (·.1))=W8))/\leftWithCleanup s'.gens=W9) s₁:=by
  refine bX (wpAny_nsGet G₁.T.g ?_);rw[hfn];refine aA (aK h (λ v s' g=>aT ?_) λ e s' g=> ?_)
  ·have z:=g.laid (c:=r.claim) VO hwi hi L
   exact⟨_,rfl,⟨z.1,z.2.1,λ q=>⟨namesKept_of hT' hg r.keeps keeps g.2.1.old,noTable hwr q⟩⟩,leftWithCleanup_false_of_bare z.2.2⟩
  ·have z:=g.laid (c:=r.claim) VO hwi hi L
   exact⟨⟨z.1,z.2.1,λ q=>⟨namesKept_of hT' hg r.keeps keeps g.2.1.old,noTable hwr q⟩⟩,leftWithCleanup_false_of_bare z.2.2⟩
 obtain⟨k,res,s',s'',hrun,V3,hfo,hcase,hos,VR⟩:=FH (prog:=r.claim.prog) (w:=w) (s:=s₁)
  (R:=λ res s'=>r.claim.Ends s args vs s₁ res s'/\s'.os=s.os/\(r.writes=W8->namesKept r.claim.prog r.keeps s.heap s'.heap/\∀x∈r.claim.records,∀a,classAt s.heap x.1=W6 a->recordClass s'.heap a x.1 (x.2.map (·.1))=W8))
  (aw.asleep_of_life hal.2.2.2 hz) TR
 refine o8 (aw.forget_eq hfo) λ eh _ _ eo _=> ?_;have hcase:=hcase.congr eh;rw[←eh]at VR;rw[←eo]at hos;have hlife:s'.heap.life=s.heap.life:= (runN_life _ _ _ hrun).trans hal.2.2.2;have go:=λ z=>kk ⟨vs,s₁,UF,k,_,s',V3,z,(λ _ i x hx=>by rw[hgens]at hx;simp at hx),VR,by rw[hlife],aw.rest_eq hos⟩
 rcases hcase with⟨v,rfl,d1,d2,d3,d4,d5⟩ | ⟨e,ob,cls,rfl,d1,d2,d3,d4,d5⟩
 ·exact go (.inl ⟨v,rfl,d1,d2,d3,λ b o y _=>d4 b o y,d5⟩)
 ·exact go (.inr ⟨e,ob,cls,rfl,d1,d2,d3,d4,λ b o y _=>d5 b o y⟩)
abbrev lV(w:aQ)(h:bS):Prop:= (K0 w.params).In h/\h.get? 585=W6 (eM #[])/\h.get? 617=W6 (eM #[])
theorem FK(h:row0.claim.pre args=W8):∃xs:List Int,args= [.list (xs.map .int)]/\xs.length<=63:=by
 have h:(WShape.hasAll [] args [.list .int] && (OpenLaw.pre Challenge.rw_sa0550_01).holds [] { args:=args })=W8:=h;refine aI (bE.mp h) λ h1 h2=> ?_;induction args with
 | nil=>contradiction
 | cons d r=>
  induction r with
  | cons _ _=>simp[WShape.hasAll]at h1
  | nil=>
   have h1:WShape.has [] d (.list .int)=W8:=by simpa[WShape.hasAll] using h1
   refine aj (hasW_list h1) λ xs SY hx=> ?_;subst SY;refine cv (items_int hx) λ ns SY=> ?_;subst SY;refine⟨ns,rfl, ?_⟩;refine jF λ hc=> ?_;have h2:= (holds_andW h2).1;have e:(WTm.not (.lt (.lit (.int 63)) (.len (.arg 0)))).value [] { args:= [.list (ns.map .int)] }=W6 (.bool (!W_ ((63:Int)<((ns.map WData.int).length:Nat)))):=w_not (w_lt rfl (w_len_list rfl));rw[dq,decide_eq_true (show (63:Int)<(ns.length:Nat) from kA.mpr hc)]at e
   have:WTm.holds [] (WTm.not (.lt (.lit (.int 63)) (.len (.arg 0)))) { args:= [.list (ns.map .int)] }=W9:=by
    delta WTm.holds;rw[e];rfl
   exact absurd (this.symm.trans h2) (by decide)
theorem FL:∀{ns:List Int} {vs:Lv} {as:Ld},ReadsAllW [] cl h vs (ns.map .int) as->IntsAre vs ns:=by
 intro ns;induction ns with
 | nil=>intro vs as h;cases h;exact .nil
 | cons n ns ih=>intro vs as h;cases h with | cons x r=>cases x;exact .cons _ _ (ih r)
theorem pn{A0 A1 A2 A3:Type}{a0:A0}{a1:A1}{a2:A2}{a3:A3}{P:Prop}(h:P):a0=a0/\a1=a1/\a2=a2/\a3=a3/\P:=⟨rfl,rfl,rfl,rfl,h⟩
theorem w8{A0 A1 A2 A3 A4 A5:Type}{a0:A0}{a1:A1}{a2:A2}{a3:A3}{a4:A4}{a5:A5}{P:Prop}(h:P):a0=a0/\a1=a1/\a2=a2/\a3=a3/\a4=a4/\a5=a5/\P:=⟨rfl,rfl,rfl,rfl,rfl,rfl,h⟩
theorem w9{A0 A1 A2 A3 A4 A5 A6 A7 A8 A9 A10:Type}{a0:A0}{a1:A1}{a2:A2}{a3:A3}{a4:A4}{a5:A5}{a6:A6}{a7:A7}{a8:A8}{a9:A9}{UM:A10}{P:Prop}(h:P):a0=a0/\a1=a1/\a2=a2/\a3=a3/\a4=a4/\a5=a5/\a6=a6/\a7=a7/\a8=a8/\a9=a9/\UM=UM/\P:=⟨rfl,rfl,rfl,rfl,rfl,rfl,rfl,rfl,rfl,rfl,rfl,h⟩
theorem rP{A0 A1 A2 A3 A4 A5 A6 A7 A8 A9 A10 A11:Type}{a0:A0}{a1:A1}{a2:A2}{a3:A3}{a4:A4}{a5:A5}{a6:A6}{a7:A7}{a8:A8}{a9:A9}{UM:A10}{U5:A11}{P:Prop}(h:P):a0=a0/\a1=a1/\a2=a2/\a3=a3/\a4=a4/\a5=a5/\a6=a6/\a7=a7/\a8=a8/\a9=a9/\UM=UM/\U5=U5/\P:=⟨rfl,rfl,rfl,rfl,rfl,rfl,rfl,rfl,rfl,rfl,rfl,rfl,h⟩
theorem rQ{A0 A1 A2 A3 A4 A5 A6 A7 A8 A9 A10 A11 A12:Type}{a0:A0}{a1:A1}{a2:A2}{a3:A3}{a4:A4}{a5:A5}{a6:A6}{a7:A7}{a8:A8}{a9:A9}{UM:A10}{U5:A11}{Vs:A12}{P:Prop}(h:P):a0=a0/\a1=a1/\a2=a2/\a3=a3/\a4=a4/\a5=a5/\a6=a6/\a7=a7/\a8=a8/\a9=a9/\UM=UM/\U5=U5/\Vs=Vs/\P:=⟨rfl,rfl,rfl,rfl,rfl,rfl,rfl,rfl,rfl,rfl,rfl,rfl,rfl,h⟩
theorem fD{A0 A1 A2 A3 A4 A5 A6 A7 A8 A9 A10 A11 A12 A13:Type}{a0:A0}{a1:A1}{a2:A2}{a3:A3}{a4:A4}{a5:A5}{a6:A6}{a7:A7}{a8:A8}{a9:A9}{UM:A10}{U5:A11}{Vs:A12}{VW:A13}{P:Prop}(h:P):a0=a0/\a1=a1/\a2=a2/\a3=a3/\a4=a4/\a5=a5/\a6=a6/\a7=a7/\a8=a8/\a9=a9/\UM=UM/\U5=U5/\Vs=Vs/\VW=VW/\P:=⟨rfl,rfl,rfl,rfl,rfl,rfl,rfl,rfl,rfl,rfl,rfl,rfl,rfl,rfl,h⟩
theorem iq{A0 A1 A2 A3 A4 A5 A6 A7 A8 A9 A10 A11 A12 A13 A14:Type}{a0:A0}{a1:A1}{a2:A2}{a3:A3}{a4:A4}{a5:A5}{a6:A6}{a7:A7}{a8:A8}{a9:A9}{UM:A10}{U5:A11}{Vs:A12}{VW:A13}{W4:A14}{P:Prop}(h:P):a0=a0/\a1=a1/\a2=a2/\a3=a3/\a4=a4/\a5=a5/\a6=a6/\a7=a7/\a8=a8/\a9=a9/\UM=UM/\U5=U5/\Vs=Vs/\VW=VW/\W4=W4/\P:=⟨rfl,rfl,rfl,rfl,rfl,rfl,rfl,rfl,rfl,rfl,rfl,rfl,rfl,rfl,rfl,h⟩
theorem gX{A0 A1 A2 A3 A4 A5 A6 A7 A8 A9 A10 A11 A12 A13 A14 A15:Type}{a0:A0}{a1:A1}{a2:A2}{a3:A3}{a4:A4}{a5:A5}{a6:A6}{a7:A7}{a8:A8}{a9:A9}{UM:A10}{U5:A11}{Vs:A12}{VW:A13}{W4:A14}{a15:A15}{P:Prop}(h:P):a0=a0/\a1=a1/\a2=a2/\a3=a3/\a4=a4/\a5=a5/\a6=a6/\a7=a7/\a8=a8/\a9=a9/\UM=UM/\U5=U5/\Vs=Vs/\VW=VW/\W4=W4/\a15=a15/\P:=⟨rfl,rfl,rfl,rfl,rfl,rfl,rfl,rfl,rfl,rfl,rfl,rfl,rfl,rfl,rfl,rfl,h⟩
theorem cF{b:Bool}{G:Prop}(h1:b=W8->G)(h2:b=W9->G):G:=match b,h1,h2 with
 | true,h,_=>h rfl
 | false,_,h=>h rfl
theorem cL{A:Type _}{o:Option A}{G:Prop}(h1:o=W7->G)(h2:∀a,o=W6 a->G):G:=match o,h1,h2 with
 | none,h,_=>h rfl
 | some a,_,h=>h a rfl
theorem dn{α:Type _}{c:Prop}[inst:Decidable c]{t:c->Option α}{x:α}(h:(if h:c then t h else W7)=W6 x):∃hc:c,t hc=W6 x:=by
 induction inst with
 | isTrue hc=>exact⟨hc,h⟩
 | isFalse hc=>contradiction
section
open PySem.Calls
def aG(b:Bool)(P:Prop):Prop:=match b with
 | true=>P
 | false=>False
theorem bA(h:aG b P):b=W8/\P:=by induction b with
 | true=>exact⟨rfl,h⟩
 | false=>exact h.elim
structure aH where
 foot:List AV->List AO->List Nat
 spec:List AV->List AO->(AV->List AO->Prop)->(Nat->List AO->Prop)->Prop
 bud:Nat
 pins:List ak
 calm:Bool
structure eS:Type 1 where
 ι:Type
 st:ι->AS
 ok:Nat->ι->Prop
 μ:ι->Nat
inductive LK where
 | vs
 | ss
 | is
structure nv:Type 1 where
 ι:Type
 objs:ι->List AO
 acc:ι->AO
 ok:Nat->ι->Prop
structure fE:Type 1 where
 ann:Nat->Option eS
 kind:Nat->LK
 comp:Nat->AS->Option nv
 cut:Nat->AS->Option eS
 lam:Nat->Option Nat
 unr:Nat->Nat
noncomputable def aS:fE:=⟨λ _=>W7,λ _=> .vs,λ _ _=>W7,λ _ _=>W7,λ _=>W7,λ _=>0⟩
structure Cf:Type 1 where
 scope:et
 ini:Nat
 cells:List (ab×Nat)
 pins:List ak
 calm:Bool
 hid:Option Nat
 qual:ab
 code:Option (ak×Nat)
 an:fE
inductive AF where
 | next
 | ret (v:AV)
 | brk
 | cont
noncomputable def FM(s:ab):AV:= .st s.cps.toList
noncomputable def pq:Const->Option AV
 | .none=>W6 .non
 | .bool b=>W6 (.bo b)
 | .int i=>W6 (.num i)
 | .str s=>W6 (FM s)
 | .bytes b=>W6 (.by_ (b.map UInt8.toNat))
 | _=>W7
noncomputable def iL:AV->Option (List Nat)
 | .st x=>W6 x
 | _=>W7
noncomputable def ir:AV->Option Int
 | .num x=>W6 x
 | _=>W7
noncomputable def fF(o:AO):Option (List AV):=if h:o.ctorIdx=2 then AO.lst.elim o h (λ xs=>W6 xs) else if h:o.ctorIdx=3 then AO.lstS.elim o h (λ xs=>W6 (xs.map .st)) else if h:o.ctorIdx=4 then AO.lstI.elim o h (λ xs=>W6 (xs.map .num)) else W7
def AV.sim(a b:AV)(P:Prop):Prop:=match a,b with
 | .non, .non=>P
 | .bo x, .bo y=>x=y/\P
 | .num x, .num y=>x=y/\P
 | .st x, .st y=>x=y/\P
 | .by_ x, .by_ y=>x=y/\P
 | .ob x, .ob y=>aG (aO x y) P
 | .gl x, .gl y=>x=y/\P
 | _,_=>False
def pv:List AV->List AV->Prop->Prop
 | [], [],P=>P
 | a::r,b::t,P=>AV.sim a b (pv r t P)
 | _,_,_=>False
def rR:List (ab×AV)->List (ab×AV)->Prop->Prop
 | [], [],P=>P
 | a::r,b::t,P=>aG (a.1==b.1) (AV.sim a.2 b.2 (rR r t P))
 | _,_,_=>False
def kL{α:Type}(o:Option α)(y:α)(P:Prop):Prop:=match o with
 | some x=>x=y/\P
 | none=>False
def AO.sim(a b:AO)(P:Prop):Prop:=match a with
 | .inst C d=>if h:b.ctorIdx=0 then AO.inst.elim b h (λ C' d'=>aG (aO C C') (aG (aO d d') P)) else False
 | .dic l=>if h:b.ctorIdx=1 then AO.dic.elim b h (λ l'=>rR l l' P) else False
 | .lst x=>if h:b.ctorIdx=2 then AO.lst.elim b h (λ y=>pv x y P) else if h:b.ctorIdx=3 then AO.lstS.elim b h (λ y=>kL (bZ iL x) y P) else if h:b.ctorIdx=4 then AO.lstI.elim b h (λ y=>kL (bZ ir x) y P) else False
 | .lstS x=>if h:b.ctorIdx=3 then AO.lstS.elim b h (λ y=>x=y/\P) else False
 | .lstI x=>if h:b.ctorIdx=4 then AO.lstI.elim b h (λ y=>x=y/\P) else False
 | .tup x=>if h:b.ctorIdx=5 then AO.tup.elim b h (λ y=>pv x y P) else if h:b.ctorIdx=6 then AO.tupS.elim b h (λ y=>kL (bZ iL x) y P) else False
 | .tupS x=>if h:b.ctorIdx=6 then AO.tupS.elim b h (λ y=>x=y/\P) else False
 | .bar x=>if h:b.ctorIdx=7 then AO.bar.elim b h (λ y=>x=y/\P) else False
 | .rng x=>if h:b.ctorIdx=8 then AO.rng.elim b h (λ y=>x=y/\P) else False
 | .cel x=>if h:b.ctorIdx=9 then AO.cel.elim b h (λ y=>AV.sim x y P) else False
 | .exc d=>if h:b.ctorIdx=10 then AO.exc.elim b h (λ d'=>aG (aO d d') P) else False
 | .exn d=>if h:b.ctorIdx=11 then AO.exn.elim b h (λ d'=>aG (aO d d') P) else False
 | .ex0=>if h:b.ctorIdx=12 then AO.ex0.elim b h (P) else False
 | .raw o=>if h:b.ctorIdx=13 then AO.raw.elim b h (λ o'=>o=o'/\P) else False
 | .lstR x o=>if h:b.ctorIdx=19 then AO.lstR.elim b h (λ y o'=>x=y/\o=o'/\P) else False
 | .exd d=>if h:b.ctorIdx=14 then AO.exd.elim b h (λ d'=>aG (aO d d') P) else False
 | .cl0=>if h:b.ctorIdx=15 then AO.cl0.elim b h (P) else False
 | .cod q=>if h:b.ctorIdx=16 then AO.cod.elim b h (λ q'=>q=q'/\P) else False
 | .lam i c cs=>if h:b.ctorIdx=17 then AO.lam.elim b h (λ i' c' cs'=>i=i'/\c=c'/\cs=cs'/\P) else False
 | .tab l=>if h:b.ctorIdx=18 then AO.tab.elim b h (λ l'=>l=l'/\P) else False
def nx:List AO->List AO->Prop->Prop
 | [], [],P=>P
 | a::r,b::t,P=>AO.sim a b (nx r t P)
 | _,_,_=>False
def ny(κ:Ln)(l:List (ab×AV)):List (ab×AV)->Prop->Prop
 | [],P=>P
 | p::r,P=>match (l.lookup p.1).bind (AV.toL κ) with
  | some v=>AV.sim v p.2 (ny κ l r P)
  | none=>False
theorem FN:ny κ l (p::r) P=match (l.lookup p.1).bind (AV.toL κ) with
 | some v=>AV.sim v p.2 (ny κ l r P)
 | none=>False:=rfl
noncomputable def gY:AV->List Nat
 | .ob k=> [k]
 | _=> []
noncomputable def w_:AO->List Nat
 | .inst _ d=> [d]
 | .dic l=>l.flatMap λ p=>gY p.2
 | .lst xs=>xs.flatMap gY
 | .tup xs=>xs.flatMap gY
 | .cel v=>gY v
 | .exc d=> [d]
 | .exn d=> [d]
 | .exd d=> [d]
 | .lam _ c cs=>c::cs.map (·.2)
 | .tab l=>l.map λ p=>p.2.2
 | _=> []
noncomputable def pz(objs:La):Nat->List Nat->List Nat->List Nat
 | 0,_,acc=>acc
 | _+1, [],acc=>acc
 | n+1,k::r,acc=>match acc.any (aO k) with
  | true=>pz objs n r acc
  | false=>match objs[k]? with
   | some o=>pz objs n (w_ o++r) (acc++ [k])
   | none=>pz objs n r acc
noncomputable def iM:Nat->List Nat
 | 0=> []
 | n+1=>iM n++ [n]
noncomputable def gc(ini:Nat)(roots:Ln)(objs:La):List Nat:=pz objs 1000 ((objs.take ini).flatMap w_++roots) (iM ini)
noncomputable def lW:List Nat->Bool
 | []=>W8
 | x::r=> !(r.any (aO x)) && lW r
theorem FP:lW (x::r)= (!(r.any (aO x)) && lW r):=rfl
noncomputable def aR:List Nat->List Nat->Bool
 | [], []=>W8
 | a::r,b::t=>aO a b && aR r t
 | _,_=>W9
theorem FR:aR (a::r) (b::t)= (aO a b && aR r t):=rfl
noncomputable def nz(ini:Nat)(κ:Ln):Bool:=lW κ && aR (κ.take ini) (iM ini)
noncomputable def iu(κ:Ln)(objs:La):Option (List AO):=bZ (λ k=>(objs[k]?).bind (AO.toL κ)) κ
def nA(ini:Nat)(κ:Ln)(σ τ:AS)(P:Prop):Prop:=aG (nz ini κ) (match iu κ σ.objs with
 | some os=>nx os τ.objs (ny κ σ.loc τ.loc P)
 | none=>False)
noncomputable def pA(l:List (ab×AV))(τ:List (ab×AV)):List Nat:=τ.flatMap λ p=>match l.lookup p.1 with
 | some v=>gY v
 | none=> []
def fgt(ini:Nat)(σ τ:AS)(P:Prop):Prop:=nA ini (gc ini (pA σ.loc τ.loc) σ.objs) σ τ P
noncomputable def w'(a:AV)(κ:Ln):Bool:=match a with
 | .ob k=> !(κ.any (aO k))
 | _=>W8
def pB(ini:Nat)(a:AV)(σ τ:AS)(P:Prop):Prop:=nA ini (gc ini (pA σ.loc τ.loc) σ.objs) σ τ (aG (w' a (gc ini (pA σ.loc τ.loc) σ.objs)) P)
abbrev Tq:=AV->List AO->Prop
def rS(ini:Nat)(κ:Ln)(v:AV)(objs:La)(Q:Tq):Prop:=aG (nz ini κ) (match iu κ objs,AV.toL κ v with
 | some os,W6 v=>Q v os
 | _,_=>False)
def iN(ini:Nat)(v:AV)(objs:La)(Q:Tq):Prop:=rS ini (gc ini (gY v) objs) v objs Q
abbrev Tr:=Nat->List AO->Prop
def bL(ini:Nat)(k:Nat)(objs:La)(R:Tr):Prop:=iN ini (.ob k) objs λ v os=>match v with
 | .ob k=>R k os
 | _=>False
noncomputable def fV(ι:Ln)(n k:Nat):Nat:=match ι[k]? with
 | some j=>j
 | none=>n+(k - ι.length)
noncomputable def AV.fromL(ι:Ln)(n:Nat):AV->AV
 | .ob k=> .ob (fV ι n k)
 | v=>v
noncomputable def AO.fromL(ι:Ln)(n:Nat):AO->AO
 | .inst C d=> .inst C (fV ι n d)
 | .dic l=> .dic (l.map λ p=>(p.1,AV.fromL ι n p.2))
 | .lst xs=> .lst (xs.map (AV.fromL ι n))
 | .lstS xs=> .lstS xs
 | .lstI xs=> .lstI xs
 | .tup xs=> .tup (xs.map (AV.fromL ι n))
 | .tupS xs=> .tupS xs
 | .bar b=> .bar b
 | .rng b=> .rng b
 | .cel v=> .cel (AV.fromL ι n v)
 | .exc d=> .exc (fV ι n d)
 | .exn d=> .exn (fV ι n d)
 | .ex0=> .ex0
 | .raw o=> .raw o
 | .exd d=> .exd (fV ι n d)
 | .cl0=> .cl0
 | .cod q=> .cod q
 | .lam i c cs=> .lam i (fV ι n c) (cs.map λ p=>(p.1,fV ι n p.2))
 | .tab l=> .tab (l.map λ p=>(p.1,p.2.1,fV ι n p.2.2))
 | .lstR xs o=> .lstR xs o
noncomputable def jd{α:Type}(l:List α):List Nat->List α->List α
 | [],_=>l
 | _::_, []=>l
 | k::ι,x::xs=>jd (l.set k x) ι xs
noncomputable def kM(objs:La)(ι:Ln)(objs':La):List AO:=jd objs ι ((objs'.take ι.length).map (AO.fromL ι objs.length))++(objs'.drop ι.length).map (AO.fromL ι objs.length)
noncomputable def nB:List ak->List Nat->List ak->Bool
 | [],_,_=>W8
 | a::r,k::ι,P=>(match P[k]? with
  | some b=>aO b a
  | none=>W9) && nB r ι P
 | _::_, [],_=>W9
theorem FS:nB (a::r) (k::ι) P= ((match P[k]? with
 | some b=>aO b a
 | none=>W9) && nB r ι P):=rfl
abbrev Ta:=AV->AS->Prop
def aH.at(c:aH)(pins:Ld)(calm:Bool)(args:List AV)(σ:AS)(Q:Ta)(R:Tn):Prop:=
 match bZ (AV.toL (c.foot args σ.objs)) args,iu (c.foot args σ.objs) σ.objs with
 | some as,W6 os=>aG (lW (c.foot args σ.objs) && (nB c.pins (c.foot args σ.objs) pins && (!c.calm || calm))) (c.spec as os (λ v os'=>Q (AV.fromL (c.foot args σ.objs) σ.objs.length v) ⟨σ.loc,kM σ.objs (c.foot args σ.objs) os'⟩)
   (λ k os'=>R (fV (c.foot args σ.objs) σ.objs.length k) ⟨σ.loc,kM σ.objs (c.foot args σ.objs) os'⟩))
 | _,_=>False
noncomputable def rT:CmpOp->Int->Int->Option Bool
 | .Lt,a,b=>W6 (W_ (a<b))
 | .LtE,a,b=>W6 (W_ (a<=b))
 | .Gt,a,b=>W6 (W_ (b<a))
 | .GtE,a,b=>W6 (W_ (b<=a))
 | .Eq,a,b=>W6 (W_ (a=b))
 | .NotEq,a,b=>W6 (!W_ (a=b))
 | _,_,_=>W7
end
section
open PySem.Calls
structure je (D:Dx) (ads:Ld) (objs:La) (s:aw) (os:Lo) (fr:Tf):Prop where
 hgens:s.gens=D.gens
 hdrawn:s.drawn=D.drawn
 hos:s.os=D.os
 stays:D.g.StaysIn s.heap
 N:∀p∈ads.zip os++fr,s.heap.get? p.1=W6 p.2/\D.g.get? p.1=W7
 len:os.length=ads.length
 objs:aW (cy ads) objs os
 nd:(ads++fr.map (·.1)).Nodup
 frs:fC D.fro fr
def gZ(D:Dx)(ads:Ld)(objs:La)(s:aw):Prop:=∃os fr,je D ads objs s os fr
def FT(D:Dx)(ads:Ld)(k:Nat)(e:az)(s:aw):Prop:=
 ∃a oe vs,ads[k]? =W6 a/\e= .ref a/\s.heap.get? a=W6 oe/\oe.data= .fields vs/\1<vs.size/\
  (vs[1]? =W6 .none∨∃T oT ts,vs[1]? =W6 (.ref T)/\D.g.get? T=W7/\T ∉ ads/\T ∉ D.fro.map (·.1)/\s.heap.get? T=W6 oT/\oT.data= .fields ts/\ts[3]? =W6 .none)
def lX(D:Dx)(ads:Ld)(Q:Tq)(R:Tr)(r:Result)(s':aw):Prop:=match r with
 | .ok (.ret v)=>∃ads' objs' av,ads <+:ads'/\gZ D ads' objs' s'/\aU ads' av v/\Q av objs'
 | .ok _=>False
 | .error e=>∃ads' objs' k,ads <+:ads'/\gZ D ads' objs' s'/\jO objs' k/\FT D ads' k e s'/\R k objs'
def bx(w:aQ)(mg mb:Tm)(f:ak)(c:aH):Prop:=
 ∀(D:Dx) (ads:Ld) (objs:La) (args:List AV) (vals:Lv) (s:aw) (Q:Tq) (R:Tr),
  jc w mg mb c.bud D->(c.calm=W8->D.hdl=W7)->(∀(i:Nat) (a:ak),c.pins[i]? =W6 a->ads[i]? =W6 a)->gZ D ads objs s->bk ads args vals->D.g.objs.size<=s.heap.objs.size->c.spec args objs Q R->
  cf (ag pw w) D.A (.call (.ref f) ⟨vals, []⟩) (lX D ads Q R) s
section
variable{w:aQ}{mg mb:Tm}{C:Cx}{ads:Ld}{σ:AS}
theorem iO:∀{ι:Ln} {k j:Nat},gA ι k=W6 j->ι[j]? =W6 k:=by
 intro ι;induction ι with
 | nil=>
  intro _ _ h;contradiction
 | cons x r ih=>
  intro k j h;rw[E3]at h;refine cF (b:=aO x k) (λ hb=> ?bt) λ hb=> ?bf
  case bt=>
   rw[hb]at h;injection h with zq;subst zq
   rw[dc hb];rfl
  case bf=>
   rw[hb]at h;apply eG h;intro i hi;rw[List.getElem?_cons_succ];exact ih hi
theorem pC:∀{l:List α} {m:List β},bZ f l=W6 m->aW (λ a b=>f a=W6 b) l m:=by
 intro l;induction l with
 | nil=>
  intro m h
  (injection h with zq;subst zq);exact .nil
 | cons x r ih=>
  intro m h;rw[jP]at h;refine aj (bO.mp h) λ y h1 h2=> ?_;apply eG h2;intro z h3;exact .cons h1 (ih h3)
theorem xa:∀{l:Ln},lW l=W8->l.Nodup:=by
 intro l;induction l with
 | nil=>
  intro _;exact List.nodup_nil
 | cons x r ih=>
  intro h;rw[FP]at h;refine aI (bE.mp h) λ h1 h2=> ?_;refine ku.mpr ⟨λ hm=> ?_,ih h2⟩;have:r.any (aO x)=W8:=m8.mpr ⟨x,hm,jl x⟩;rw[this]at h1;contradiction
noncomputable def bz(ads:Ld)(ι:Ln):List ak:=ι.map λ k=>(ads[k]?).getD 0
theorem iP{ads:Ld}{ι:Ln}{j k:Nat}{a:ak}(h:ι[j]? =W6 k)(e:ads[k]? =W6 a):(bz ads ι)[j]? =W6 a:=by
 unfold bz;rw[fy,h,Option.map_some,e];rfl
theorem xb{ads:Ld}{ι:Ln}{j:Nat}{a:ak}(hl:∀k∈ι,k<ads.length)(h:(bz ads ι)[j]? =W6 a):∃k,ι[j]? =W6 k/\ads[k]? =W6 a:=by
 unfold bz at h;rw[fy]at h;apply eG h;intro k hk;have:=hl k (dH hk);exact⟨k,hk,by rw[bP this];rfl⟩
theorem nC{ι:Ln}{a a':AV}{v:az}(c:aU ads a v)(h:AV.toL ι a=W6 a'):aU (bz ads ι) a' v:=by
 induction a with
 | ob k=>
  apply eG h;intro j hj;revert c;refine b7 λ x hx zq2=> ?_;subst zq2;exact⟨x,iP (iO hj) hx,rfl⟩
 | _=>(injection h with zq;subst zq);exact c
theorem rU:∀{as as':List AV} {vs:Lv},bk ads as vs->bZ (AV.toL ι) as=W6 as'->bk (bz ads ι) as' vs:=by
 intro as as' vs c;induction c generalizing as' with
 | nil=>intro h;injection h with zq;subst zq;exact .nil
 | cons x _ ih=>
  intro h;rw[jP]at h;refine aj (bO.mp h) λ b h1 h2=> ?_;apply eG h2;intro z h3;exact .cons (nC x h1) (ih h3)
theorem FU:∀{l l':List (ab×AV)} {es:List DictEntry},iJ ads l es->bZ (λ p=>(AV.toL ι p.2).map λ v=>(p.1,v)) l=W6 l'->iJ (bz ads ι) l' es:=by
 intro l l' es c;induction c generalizing l' with
 | nil=>intro h;injection h with zq;subst zq;exact .nil
 | cons x _ ih=>
  intro h;rw[jP]at h;refine aj (bO.mp h) λ b h1 h2=> ?_;apply eG h2;intro z h3;apply eG h1;intro v h4;exact .cons ⟨x.1,nC x.2 h4⟩ (ih h3)
theorem lY:∀{xs:Ll} {vs:Lv},bk ads (xs.map .st) vs->bk ads' (xs.map .st) vs
 | [],_, .nil=> .nil
 | _::_,_, .cons x y=> .cons x (lY y)
theorem pD:∀{xs:List Int} {vs:Lv},bk ads (xs.map .num) vs->bk ads' (xs.map .num) vs
 | [],_, .nil=> .nil
 | _::_,_, .cons x y=> .cons x (pD y)
theorem FV{ι:Ln}:∀{l l':List (ab×Nat)} {es:List (ab×ak)},nr ads l es->bZ (λ p=>(gA ι p.2).map λ k=>(p.1,k)) l=W6 l'->nr (bz ads ι) l' es:=by
 intro l l' es c;induction c generalizing l' with
 | nil=>intro h;injection h with zq;subst zq;exact .nil
 | cons x _ ih=>
  intro h;rw[jP]at h;refine aj (bO.mp h) λ b h1 h2=> ?_;apply eG h2;intro z h3;apply eG h1;intro v h4;exact .cons ⟨x.1,iP (iO h4) x.2⟩ (ih h3)
theorem FW{ι:Ln}:∀{l l':List (Nat×Nat×Nat)} {vs:Lv},gk ads l vs->bZ (λ(p:Nat×Nat×Nat)=>(gA ι p.2.2).map λ k=>(p.1,p.2.1,k)) l=W6 l'->gk (bz ads ι) l' vs:=by
 intro l l' vs c;induction c generalizing l' with
 | nil=>intro h;injection h with zq;subst zq;exact .nil
 | cons x _ ih=>
  intro h;rw[jP]at h;refine aj (bO.mp h) λ b h1 h2=> ?_;apply eG h2;intro z h3;apply eG h1;intro v h4;exact .cons (iP (iO h4) x) (ih h3)
theorem xc{ι:Ln}{a a':AO}{o:Obj}(c:cy ads a o)(h:AO.toL ι a=W6 a'):cy (bz ads ι) a' o:=by
 induction a with
 | inst C d=>
  apply eG h;intro j hj;revert c;refine b7 λ x hx zq2=> ?_;subst zq2;exact⟨x,iP (iO hj) hx,rfl⟩
 | dic l=>
  apply eG h;intro j hj;revert c;apply ru;intro es n r;exact⟨es,n,rfl,FU r hj⟩
 | lst xs=>
  apply eG h;intro j hj;revert c;apply ru;intro es n r;exact⟨es,n,rfl,rU r hj⟩
 | tup xs=>
  apply eG h;intro j hj;revert c;apply ru;intro es n r;exact⟨es,n,rfl,rU r hj⟩
 | lstS xs=>(injection h with zq;subst zq);obtain⟨es,n,rfl,r⟩:=c;exact⟨es,n,rfl,lY r⟩
 | lstI xs=>(injection h with zq;subst zq);obtain⟨es,n,rfl,r⟩:=c;exact⟨es,n,rfl,pD r⟩
 | lstR xs o=>(injection h with zq;subst zq);exact c
 | tupS xs=>(injection h with zq;subst zq);obtain⟨es,n,rfl,r⟩:=c;exact⟨es,n,rfl,lY r⟩
 | rng n=>(injection h with zq;subst zq);exact c
 | bar b=>(injection h with zq;subst zq);exact c
 | cel v=>
  apply eG h;intro j hj;revert c;refine b7 λ u e r=> ?_;exact⟨u,e,nC r hj⟩
 | exc d=>
  apply eG h;intro j hj;revert c;refine c7 λ x vs hx r=> ?_;exact⟨x,vs,iP (iO hj) hx,r⟩
 | exd d=>
  apply eG h;intro j hj;revert c;refine c7 λ x vs hx r=> ?_;exact⟨x,vs,iP (iO hj) hx,r⟩
 | cl0=>(injection h with zq;subst zq);exact c
 | cod q=>(injection h with zq;subst zq);exact c
 | lam i k cs=>
  refine aj (bO.mp h) λ j hj h=> ?_;apply eG h;intro l hl;revert c;refine u_ λ a1 a2 a3 a4 e r q=> ?_;exact⟨a1,a2,a3,a4,iP (iO hj) e,FV r hl,q⟩
 | tab l=>
  apply eG h;intro j hj;revert c;refine b7 λ vs e r=> ?_;exact⟨vs,e,FW r hj⟩
 | exn d=>
  apply eG h;intro j hj;revert c;refine c7 λ x vs hx r=> ?_;exact⟨x,vs,iP (iO hj) hx,r⟩
 | ex0=>(injection h with zq;subst zq);exact c
 | raw o=>(injection h with zq;subst zq);exact c
noncomputable def gm(ads:Ld)(ι:Ln)(ads':Ld):List ak:=ads++ads'.drop ι.length
theorem jr(hl:∀k∈ι,k<ads.length)(hp:bz ads ι <+:ads')(h:ads'[k]? =W6 a):(gm ads ι ads')[fV ι ads.length k]? =W6 a:=by
 unfold fV gm;cases hk:ι[k]? with
 | some j=>
  have lj:=hl j (dH hk);rw[ib lj];have h1:(bz ads ι)[k]? =W6 ((ads[j]?).getD 0):=by unfold bz;rw[fy,hk];rfl
  have h2:=dB hp h1;rw[h]at h2;obtain rfl:=bQ h2;show ads[j]? =_;rw[bP lj];rfl
 | none=>
  have lk:ι.length<=k:=by simpa using hk
  show (ads++dJ ι.length ads')[ads.length+(k - ι.length)]? =W6 a;rw[kl (kr ..),Nat.add_sub_cancel_left,oW];rw[show ι.length+(k - ι.length)=k by grind]
  exact h
theorem pE(hl:∀k∈ι,k<ads.length)(hp:bz ads ι <+:ads')(c:aU ads' a v):aU (gm ads ι ads') (AV.fromL ι ads.length a) v:=by
 induction a with
 | ob k=>obtain⟨x,hx,rfl⟩:=c;exact⟨x,jr hl hp hx,rfl⟩
 | _=>exact c
theorem xd(hl:∀k∈ι,k<ads.length)(hp:bz ads ι <+:ads')(c:bk ads' a v):bk (gm ads ι ads') (a.map (AV.fromL ι ads.length)) v:=by
 induction c with
 | nil=>exact .nil
 | cons x _ ih=>exact .cons (pE hl hp x) ih
theorem FX(hl:∀k∈ι,k<ads.length)(hp:bz ads ι <+:ads')(c:iJ ads' a v):iJ (gm ads ι ads') (a.map λ p=>(p.1,AV.fromL ι ads.length p.2)) v:=by
 induction c with
 | nil=>exact .nil
 | cons x _ ih=>exact .cons (⟨x.1,pE hl hp x.2⟩) ih
theorem FY(hl:∀k∈ι,k<ads.length)(hp:bz ads ι <+:ads')(c:nr ads' a v):nr (gm ads ι ads') (a.map λ p=>(p.1,fV ι ads.length p.2)) v:=by
 induction c with
 | nil=>exact .nil
 | cons x _ ih=>exact .cons (⟨x.1,jr hl hp x.2⟩) ih
theorem FZ(hl:∀k∈ι,k<ads.length)(hp:bz ads ι <+:ads')(c:gk ads' a v):gk (gm ads ι ads') (a.map λ p=>(p.1,p.2.1,fV ι ads.length p.2.2)) v:=by
 induction c with
 | nil=>exact .nil
 | cons x _ ih=>exact .cons (jr hl hp x) ih
theorem xe(hl:∀k∈ι,k<ads.length)(hp:bz ads ι <+:ads')(c:cy ads' a o):cy (gm ads ι ads') (AO.fromL ι ads.length a) o:=by
 induction a with
 | inst C d=>obtain⟨x,hx,rfl⟩:=c;exact⟨x,jr hl hp hx,rfl⟩
 | dic l=>obtain⟨es,n,rfl,r⟩:=c;exact⟨es,n,rfl,FX hl hp r⟩
 | lst xs=>obtain⟨es,n,rfl,r⟩:=c;exact⟨es,n,rfl,xd hl hp r⟩
 | tup xs=>obtain⟨es,n,rfl,r⟩:=c;exact⟨es,n,rfl,xd hl hp r⟩
 | lstS xs=>obtain⟨es,n,rfl,r⟩:=c;exact⟨es,n,rfl,lY r⟩
 | lstI xs=>obtain⟨es,n,rfl,r⟩:=c;exact⟨es,n,rfl,pD r⟩
 | lstR xs o=>exact c
 | tupS xs=>obtain⟨es,n,rfl,r⟩:=c;exact⟨es,n,rfl,lY r⟩
 | rng n=>exact c
 | bar b=>exact c
 | cel v=>obtain⟨u,e,r⟩:=c;exact⟨u,e,pE hl hp r⟩
 | exc d=>obtain⟨x,vs,hx,r⟩:=c;exact⟨x,vs,jr hl hp hx,r⟩
 | exd d=>obtain⟨x,vs,hx,r⟩:=c;exact⟨x,vs,jr hl hp hx,r⟩
 | cl0=>exact c
 | cod q=>exact c
 | lam i k cs=>obtain⟨a1,a2,a3,a4,e,r,q⟩:=c;exact⟨a1,a2,a3,a4,jr hl hp e,FY hl hp r,q⟩
 | tab l=>obtain⟨vs,e,r⟩:=c;exact⟨vs,e,FZ hl hp r⟩
 | exn d=>obtain⟨x,vs,hx,r⟩:=c;exact⟨x,vs,jr hl hp hx,r⟩
 | ex0=>exact c
 | raw o=>exact c
theorem jQ:∀(ι:Ln) (xs l:List α),(jd l ι xs).length=l.length
 | [],xs,_=>by induction xs <;> rfl
 | _::_, [],_=>rfl
 | k::ι,x::xs,l=>by show (jd (l.set k x) ι xs).length=_;rw[jQ ι xs,o6]
theorem pF:∀{ι:Ln} {xs l:List α},k ∉ ι->(jd l ι xs)[k]? =l[k]?
 | [],xs,_,_=>by induction xs <;> rfl
 | _::_, [],_,_=>rfl
 | j::ι,x::xs,l,h=>by
  show (jd (l.set j x) ι xs)[k]? =_;rw[pF λ q=>h (.tail _ q),List.getElem?_set_ne λ q=>h (by rw[q];exact .head _)]
theorem pG:∀{ι:Ln} {xs l:List α} {j:Nat},ι.Nodup->ι[j]? =W6 k->xs[j]? =W6 y->k<l.length->(jd l ι xs)[k]? =W6 y:=by
 intro ι;induction ι with
 | nil=>intro xs l j _ h;cases j <;> contradiction
 | cons i ι ih=>
  intro xs l j hn h1 h2 hl;have hn2:=ku.mp hn;induction xs using gS with
  | nil=>cases j <;> contradiction
  | cons x xs=>
   induction j using Nat.casesOn with
   | zero=>
    obtain rfl:=bQ h1;obtain rfl:=bQ h2;show (jd (l.set i x) ι xs)[i]? =_;rw[pF hn2.1];exact oR hl
   | succ j=>exact ih hn2.2 h1 h2 (by rw[o6];exact hl)
theorem kN:∀{l:List α} {m:List β},l.length=m.length->(∀(k:Nat) (a:α) (b:β),l[k]? =W6 a->m[k]? =W6 b->r a b)->aW r l m:=by
 intro l;induction l with
 | nil=>
  intro m h _;induction m using gS with
  | nil=>exact .nil
  | cons _ _=>contradiction
 | cons x l ih=>
  intro m h f;induction m using gS with
  | nil=>contradiction
  | cons y m=>exact .cons (f 0 x y rfl rfl) (ih (ng h) λ k a b h1 h2=>f (k+1) a b h1 h2)
theorem aW.at{α β:Type}{r:α->β->Prop}{l:List α}{m:List β}(h:aW r l m){k:Nat}{a:α}{b:β}(h1:l[k]? =W6 a)(h2:m[k]? =W6 b):r a b:=by
 refine aj (h.get h1) λ b' h3 h4=> ?_;rw[h2]at h3;(injection h3 with zq;subst zq);exact h4
theorem js{α β:Type}{l:List α}{m:List β}{p:α×β}(h:p∈l.zip m):∃j:Nat,l[j]? =W6 p.1/\m[j]? =W6 p.2:=by
 obtain⟨j,hj,e⟩:=List.getElem_of_mem h;have h1:j<l.length:=by simp at hj;grind
 have h2:j<m.length:=by simp at hj;grind
 subst e;refine⟨j, ?_, ?_⟩
 ·simp[h1]
 ·simp[h2]
noncomputable def Cx.pre(C:Cx)(oL:Obj):List (ak×Obj):=match C.comp with
 | true=> []
 | false=> [(C.L,oL)]
theorem Cx.pre_mem(h:p∈C.pre oL):p= (C.L,oL):=by
 unfold Cx.pre at h;cases hc:C.comp <;> rw[hc]at h
 ·simpa using h
 ·cases h
noncomputable def Cx.under(C:Cx)(s:aw)(oL:Obj)(fr:Tf)(Un:Ld):Dx:=
 { dp:=C.dp,un:=C.un,gd:=C.gd,hdl:=C.hdl,outer:=C.envs,g:=hideAll s.heap (Un++(C.pre oL++fr).map (·.1)),base:=C.base,fro:=C.pre oL++fr,gens:=C.gens,drawn:=C.drawn,os:=C.os }
theorem rV(hl:∀k∈ι,k<ads.length)(hn:ads.Nodup)(hi:ι.Nodup):(bz ads ι).Nodup:=by
 unfold bz;refine List.Pairwise.map _ (R:=λ a b=>a≠b/\a<ads.length/\b<ads.length) ?_ ?_
 ·rintro a b ⟨U',ha,hb⟩ e
  rw[bP ha,bP hb]at e;exact U' ((List.getElem_inj hn).mp e)
 ·exact List.Pairwise.imp_of_mem (λ {a b} ha hb h=>⟨h,hl a ha,hl b hb⟩) hi
theorem iQ(hl:∀k∈ι,k<ads.length)(h:a∈bz ads ι):∃k,k∈ι/\ads[k]? =W6 a:=by
 apply CS h;intro k hk;exact⟨k,hk,by rw[bP (hl k hk)];rfl⟩
theorem fC.trans(h:fC a b)(h':fC b c):fC a c:=by
 induction h generalizing c with
 | nil=>cases h';exact .nil
 | cons x _ ih=>
  cases h' with
  | cons y z=>
   refine .cons ⟨y.1.trans x.1, ?_⟩ (ih z);refine aj x.2 λ sl e f=> ?_;refine aj y.2 λ sl' e' f'=> ?_;refine⟨sl',by rw[e',e],λ h=> ?_⟩
   rw[e]at f';exact(f' h).trans (f h)
theorem fC.keys(h:fC a b):b.map (·.1)=a.map (·.1):=by
 induction h with
 | nil=>rfl
 | cons x _ ih=>rw[eW,eW,ih,x.1]
theorem aE.goes{s:aw}{os:Lo}{fr:Tf}{m:Tm}(x:aE C ads σ s os fr m){ι:Ln}(hi:ι.Nodup){objsL:La}
  (ho:iu ι σ.objs=W6 objsL) {oL:Obj} (hL:s.heap.get? C.L=W6 oL):gZ (C.under s oL fr (bz ads ι)) (bz ads ι) objsL s/\∀k∈ι,k<ads.length:=by
 replace ho:aW (λ k a=>(σ.objs[k]?).bind (AO.toL ι)=W6 a) ι objsL:=pC ho
 have TQ:∀k∈ι,k<ads.length:=λ k hk=>by
  refine cv (iE hk) λ i hi=> ?_;refine aj (ho.get hi) λ a _ h2=> ?_;refine aj (bO.mp h2) λ b h3 _=> ?_;rw[←x.len,←x.objs.len];exact(dP.mp h3).1
 have hd:=cC.mp x.nd;have hb:∀b,b∈bz ads ι->b∈ads:=λ b h=>let ⟨_,_,e⟩:=iQ TQ h;dH e
 refine⟨⟨ι.map λ k=>(os[k]?).getD default,C.pre oL++fr,⟨x.hgens,x.hdrawn,x.hos,λ b o h=>of_hideAll _ h, ?_, ?_, ?_, ?_, ?_⟩⟩,TQ⟩
 ·have hid:∀b,b∈bz ads ι++(C.pre oL++fr).map (·.1)->(C.under s oL fr (bz ads ι)).g.get? b=W7:=λ b h=>hideAll_none _ h
  intro p hp;rcases bV.mp hp with q | q
  ·refine aj (js q) λ j h1 h2=> ?_
   refine aj (xb TQ h1) λ k h3 h4=> ?_;refine⟨?_,hid _ (bU _ (dH h1))⟩;rw[fy,h3]at h2;have lk:k<os.length:=by rw[x.len];exact TQ k (dH h3)
   rw[Option.map_some,bP lk]at h2;have h5:= (x.N _ (bU fr (eI h4 (bP lk)))).1;rw[←bQ h2];exact h5
  ·refine⟨?_,hid _ (cu _ (gN q))⟩
   rcases bV.mp q with q | q
   ·rw[Cx.pre_mem q];exact hL
   ·exact(x.N _ (cu _ q)).1
 ·unfold bz;rw[dq,dq]
 ·refine kN (by rw[dq,←ho.len]) λ j a o h1 h2=> ?_
  rw[fy]at h2;apply eG h2;intro k hk;have h3:=ho.at hk h1;refine aj (bO.mp h3) λ b h4 h5=> ?_;refine aj (x.objs.get h4) λ o h6 h7=> ?_;rw[h6];exact xc h7 h5
 ·have TI:((C.pre oL++fr).map (·.1)).Nodup:=by
   rw[eJ];refine cC.mpr ⟨?_,hd.2.1,λ b h1 c h2 e=> ?_⟩
   ·unfold Cx.pre;induction C.comp <;> simp
   ·subst e
    refine aj (cZ.mp h1) λ p hp e1=> ?_;refine aj (cZ.mp h2) λ q hq e2=> ?_;rw[Cx.pre_mem hp]at e1;exact(x.N q (cu _ hq)).2.1 (e2.trans e1.symm)
  refine cC.mpr ⟨rV TQ hd.1 hi,TI,λ b h1 c h2 e=> ?_⟩;subst e;rw[eJ]at h2;rcases bV.mp h2 with h2 | h2
  ·refine aj (cZ.mp h2) λ p hp e1=> ?_
   rw[Cx.pre_mem hp]at e1;refine cv (iE (hb _ h1)) λ k h3=> ?_;have lk:k<os.length:=by rw[x.len];exact(dP.mp h3).1
   exact(x.N _ (bU fr (eI h3 (bP lk)))).2.1 e1.symm
  ·exact hd.2.2 b (hb _ h1) b h2 rfl
 ·exact kN rfl λ k a b h1 h2=>by change (C.pre oL++fr)[k]? =W6 a at h1;rw[h1]at h2;(injection h2 with zq;subst zq);exact⟨rfl,a.2.slots,rfl,λ _=>rfl⟩
theorem aE.back{s s':aw}{os:Lo}{fr:Tf}{m:Tm}(x:aE C ads σ s os fr m){ι:Ln}(hi:ι.Nodup)(hl:∀k∈ι,k<ads.length){oL:Obj}(hL:s.heap.get? C.L=W6 oL)
  {ads':Ld} {objs':La} (hp:bz ads ι <+:ads') (d:gZ (C.under s oL fr (bz ads ι)) ads' objs' s'):bK C (gm ads ι ads') ⟨σ.loc,kM σ.objs ι objs'⟩ s':=by
 revert d;refine jq λ os' fr' y=> ?_;refine lR x.F.ns λ oL' es ep hLo hLd hLk hLf=> ?_;rw[hL]at hLo;obtain rfl:=bQ hLo;have hd:=cC.mp x.nd;have hd':=cC.mp y.nd;have hLn:C.L ∉ ads:=λ q=>by
  refine cv (iE q) λ k h3=> ?_;have lk:k<os.length:=by rw[x.len];exact(dP.mp h3).1
  exact(x.N _ (bU fr (eI h3 (bP lk)))).2.1 rfl
 have hLf':C.L ∉ fr.map (·.1):=λ q=>by
  refine aj (cZ.mp q) λ p hp e=> ?_;exact(x.N p (cu _ hp)).2.1 e
 obtain⟨fr₁,Tg,rfl,hL1,hfr,sl,hLs,hL2⟩:∃fr₁ Tg,fr'=fr₁++Tg/\(∀p∈fr₁,p.1=C.L)/\fC fr Tg/\∃sl,s'.heap.get? C.L=W6 { oL with slots:=sl }/\C.L ∉ ads'.drop ι.length:=by
  have:=y.frs;have VL:∀b∈ads'.drop ι.length,∃j,b∈ads'/\(ads'.zip os')[j]? =W6 (b,(os'[j]?).getD default):=λ b hb=>by
   refine cv (iE hb) λ j hj=> ?_;rw[oW]at hj;have lj:ι.length+j<os'.length:=by rw[y.len];exact(dP.mp hj).1
   refine⟨ι.length+j,dH hj, ?_⟩;rw[List.getElem?_zip_eq_some];exact⟨hj,by rw[bP lj];rfl⟩
  generalize hq:(C.under s oL fr (bz ads ι)).fro=q at this
  change C.pre oL++fr=q at hq
  unfold Cx.pre at hq;refine cF (b:=C.comp) (λ hc=> ?bt) λ hc=> ?bf
  case bf=>
   rw[hc]at hq;induction this with
   | nil=>contradiction
   | @cons a b l m h1 h2=>
    cases hq;have e0:b.1=C.L:=h1.1;refine aj h1.2 λ sl e1 _=> ?_;refine⟨[b],m,rfl,λ p hp=>by rw[dI.mp hp];exact e0,h2,sl, ?_,λ q=> ?_⟩
    ·have:= (y.N b (cu _ (.head _))).1
     rw[e0,e1]at this;exact this
    ·refine aj (VL _ q) λ _ h3 _=> ?_
     exact hd'.2.2 C.L h3 b.1 (by simp) e0.symm
  case bt=>
   rw[hc]at hq;subst hq;have hg:(C.under s oL fr (bz ads ι)).g.get? C.L=W6 oL:=jm _ hL λ q=>by
    have:(C.pre oL++fr)=fr:=by unfold Cx.pre;rw[hc];rfl
    rw[this]at q;rcases bV.mp q with q | q
    ·refine aj (iQ hl q) λ k _ e=> ?_
     exact hLn (dH e)
    ·exact hLf' q
   refine⟨[],fr',rfl,(λ p hp=>nomatch hp),this,oL.slots,y.stays _ _ hg,λ q=> ?_⟩
   refine aj (VL _ q) λ j _ h3=> ?_;have:= (y.N _ (bU _ (dH h3))).2;rw[hg]at this;contradiction
 have hkeys:=hfr.keys;have len':ι.length<=ads'.length:=by
  revert hp;refine dw λ t ht=> ?_;rw[←ht,bD];unfold bz;rw[dq];exact kr ..
 have keep:∀b o,s.heap.get? b=W6 o->b ∉ bz ads ι->b≠C.L->b ∉ fr.map (·.1)->s'.heap.get? b=W6 o:=λ b o h h1 h2 h3=>
  y.stays b o (jm _ h λ q=>by
   rcases bV.mp q with q | q
   ·exact h1 q
   ·rw[eJ]at q
    rcases bV.mp q with q | q
    ·refine aj (cZ.mp q) λ p hp e=> ?_
     rw[Cx.pre_mem hp]at e;exact h2 e.symm
    ·exact h3 q)
 have Vh:∀b∈ads'.drop ι.length,b ∉ ads/\b≠C.L/\b ∉ fr.map (·.1)/\C.g.get? b=W7:=λ b hb=>by
  refine cv (iE hb) λ j hj=> ?_;rw[oW]at hj;have lj:ι.length+j<os'.length:=by rw[y.len];exact(dP.mp hj).1
  have hN:=y.N _ (bU _ (eI hj (bP lj)));have Vk:b∈ads':=dH hj;have WK:b ∉ bz ads ι:=λ q=>by
   refine cv (iE q) λ i h1=> ?_;have h2:=dB hp h1;have:=kJ hd'.1 h2 hj;have li:i<ι.length:=by have:= (dP.mp h1).1;unfold bz at this;rwa [dq]at this
   lia
  have h2:b≠C.L:=λ q=>hL2 (q ▸ hb);have h3:b ∉ fr.map (·.1):=λ q=>hd'.2.2 b Vk b (by rw[eJ];exact cu _ (by rw[hkeys];exact q)) rfl
  have Vg:∀o,s.heap.get? b=W6 o->False:=λ o h=>by
   have q:(C.under s oL fr (bz ads ι)).g.get? b=W6 o:=jm _ h λ q=>by
    rcases bV.mp q with q | q
    ·exact WK q
    ·rw[eJ]at q
     rcases bV.mp q with q | q
     ·refine aj (cZ.mp q) λ p hp e=> ?_
      rw[Cx.pre_mem hp]at e;exact h2 e.symm
     ·exact h3 q
   rw[hN.2]at q;contradiction
  refine⟨λ q=> ?_,h2,h3, ?_⟩
  ·refine cv (iE q) λ k h4=> ?_
   have lk:k<os.length:=by rw[x.len];exact(dP.mp h4).1
   exact Vg _ (x.N _ (bU fr (eI h4 (bP lk)))).1
  ·cases q:C.g.get? b with
   | none=>rfl
   | some o=>exact(Vg o (x.F.keep b o q)).elim
 have Wv:(jd os ι (os'.take ι.length)).length=ads.length:=by rw[jQ,x.len]
 refine⟨jd os ι (os'.take ι.length)++os'.drop ι.length,Tg,m,⟨y.hgens,y.hdrawn,y.hos,⟨⟨{ oL with slots:=sl },es,ep,hLs,hLd,hLk,hLf⟩,λ b o h=> ?_,x.F.above⟩,λ z u h=> ?_, ?_, ?_, ?_, ?_,x.frs.trans hfr,x.ini.trans (c9 _ _)⟩⟩
 ·have h1:=x.F.keep b o h
  refine keep b o h1 (λ q=> ?_) (λ q=> ?_) λ q=> ?_
  ·refine aj (iQ hl q) λ k _ h4=> ?_
   have lk:k<os.length:=by rw[x.len];exact(dP.mp h4).1
   have:= (x.N _ (bU fr (eI h4 (bP lk)))).2.2;rw[h]at this;contradiction
  ·subst q
   exact absurd (i7 (ed h) x.F.above) (gR _)
  ·refine aj (cZ.mp q) λ p hp e=> ?_
   have:= (x.N p (cu _ hp)).2.2;rw[e,h]at this;contradiction
 ·refine aj (x.loc z u h) λ v h1 h2=> ?_
  exact⟨v,h1,h2.mono (c9 _ _)⟩
 ·unfold gm
  rw[List.zip_append Wv.symm];intro p hp';rcases bV.mp hp' with q | q
  ·rcases bV.mp q with q | q
   ·refine aj (js q) λ k h1 h2=> ?_
    have lk:= (dP.mp h1).1;have lko:k<os.length:=by rw[x.len];exact lk
    have hN:=x.N _ (bU fr (eI h1 (bP lko)));refine⟨?_,hN.2.1,hN.2.2⟩
    by_cases hk:k∈ι
    ·refine cv (iE hk) λ j hj=> ?_
     have lj:= (dP.mp hj).1;have ljo:j<os'.length:=by rw[y.len];exact i7 ‹_› ‹_›
     have h3:(os'.take ι.length)[j]? =W6 os'[j]:=by rw[List.getElem?_take,if_pos lj];exact bP ljo
     rw[pG hi hj h3 lko]at h2;have h4:=dB hp (iP hj h1);have h5:= (y.N _ (bU _ (eI h4 (bP ljo)))).1;rw[←bQ h2];exact h5
    ·rw[pF hk,bP lko]at h2
     rw[←bQ h2];refine keep _ _ hN.1 (λ q=> ?_) hN.2.1 λ q=>hd.2.2 p.1 (dH h1) p.1 q rfl;refine aj (iQ hl q) λ k' UR h4=> ?_;exact hk (kJ hd.1 h1 h4 ▸ UR)
   ·refine aj (js q) λ j h1 h2=> ?_
    refine iH (Vh p.1 (dH h1)) λ _ n2 _ n4=> ?_;rw[oW]at h1 h2;exact⟨(y.N _ (bU _ (eI h1 h2))).1,n2,n4⟩
  ·have hN:=y.N p (cu _ (cu _ q))
   have hm:p.1∈fr.map (·.1):=by rw[←hkeys];exact gN q
   refine aj (cZ.mp hm) λ p' hp'' e=> ?_;have:=x.N p' (cu _ hp'');exact⟨hN.1,e ▸ this.2.1,e ▸ this.2.2⟩
 ·unfold gm;rw[bD,bD,Wv,gQ,gQ,y.len]
 ·unfold kM
  have lo:objs'.length=ads'.length:=by rw[y.objs.len,y.len]
  have lσ:σ.objs.length=ads.length:=by rw[x.objs.len,x.len]
  refine aW.append ?_ ?_
  ·refine kN (by rw[jQ,jQ,x.objs.len]) λ k a o h1 h2=> ?_
   have lk:k<σ.objs.length:=by rw[←jQ ι];exact(dP.mp h1).1
   have lko:k<os.length:=by rw[←x.objs.len];exact lk
   by_cases hk:k∈ι
   ·refine cv (iE hk) λ j hj=> ?_
    have lj:= (dP.mp hj).1;have ljo:j<os'.length:=by rw[y.len];exact i7 ‹_› ‹_›
    have ljb:j<objs'.length:=by rw[lo];omega
    have h3:(os'.take ι.length)[j]? =W6 os'[j]:=by rw[List.getElem?_take,if_pos lj];exact bP ljo
    have h4:((objs'.take ι.length).map (AO.fromL ι σ.objs.length))[j]? =W6 (AO.fromL ι σ.objs.length objs'[j]):=by
     rw[fy,List.getElem?_take,if_pos lj,bP ljb];rfl
    rw[pG hi hj h3 lko]at h2;rw[pG hi hj h4 lk]at h1;rw[←bQ h1,←bQ h2,lσ];exact xe hl hp (y.objs.at (bP ljb) (bP ljo))
   ·rw[pF hk]at h1 h2
    exact(x.objs.at h1 h2).mono (c9 _ _)
  ·refine kN (by rw[dq,gQ,gQ,y.objs.len]) λ k a o h1 h2=> ?_
   rw[fy]at h1;apply eG h1;intro b hb;rw[oW]at hb h2;rw[lσ];exact xe hl hp (y.objs.at hb h2)
 ·unfold gm
  rw[cS];have WY:(ads'.drop ι.length).Nodup:=hd'.1.sublist (List.drop_sublist _ _);refine cC.mpr ⟨hd.1,cC.mpr ⟨WY,by rw[hkeys];exact hd.2.1,λ b h1 c h2 e=> ?_⟩,λ b h1 c h2 e=> ?_⟩
  ·subst e;rw[hkeys]at h2;exact(Vh b h1).2.2.1 h2
  ·subst e
   rcases bV.mp h2 with h2 | h2
   ·exact(Vh b h2).1 h1
   ·rw[hkeys]at h2;exact hd.2.2 b h1 b h2 rfl
end
end
section
open PySem.Calls
section
variable{w:aQ}{mg mb:Tm}{C:Cx}{ads:Ld}{σ:AS}{bud:Nat}
theorem aE.off{s:aw}{os:Lo}{fr:Tf}{m:Tm}(x:aE C ads σ s os fr m){h':bS}{tk:Nat}
  (hk:∀b o,s.heap.get? b=W6 o->(b=C.L∨b∈ads∨b∈fr.map (·.1)∨(C.g.get? b).isSome=W8)->h'.get? b=W6 o):aE C ads σ { s with heap:=h',toks:=tk } os fr m:=by
 refine jL x.F.ns λ oL es ep hL r=> ?_;refine⟨x.hgens,x.hdrawn,x.hos,⟨⟨oL,es,ep,hk _ _ hL (.inl rfl),r⟩,λ b o e=>hk b o (x.F.keep b o e) (.inr (.inr (.inr (by rw[e];rfl)))),x.F.above⟩,x.loc,λ p hp=>⟨hk _ _ (x.N p hp).1 ?_,(x.N p hp).2⟩,x.len,x.objs,x.nd,x.frs,x.ini⟩
 refine c_ (bV.mp hp) (λ q=> ?_) (λ q=> ?_)
 ·exact .inr (.inl (by have:=gN (f:= (·.1)) q;rw[nu x.len]at this;exact this))
 ·exact .inr (.inr (.inl (gN q)))
theorem aE.junk{s:aw}{os:Lo}{fr:Tf}{m:Tm}(x:aE C ads σ s os fr m)(o:Obj)(tk:Nat):aE C ads σ { s with heap:=s.heap.push o,toks:=tk } os fr m:=
 x.off λ _ _ h _=>dt _ h
theorem F0(c:aW (kI base) outer fro):outer.filterMap (·.frame)=fro.map (·.1):=by
 induction c with
 | nil=>rfl
 | cons x _ ih=>rw[List.filterMap_cons,x.2.1,eW,ih]
theorem F1{base h:bS}{outer:List Env}{fro fr:Tf}(c:aW (kI base) outer fro):fC fro fr->
  (∀p∈fr,h.get? p.1=W6 p.2)->h.FunFrames base outer:=by
 induction c generalizing fr with
 | nil=>exact λ _ _=>trivial
 | cons x y ih=>
  intro c2 g;refine dY c2.inv_cons λ p t zq2 a b=> ?_;subst zq2;refine aj a.2 λ sl e _=> ?_;refine lP x.2.2.2 λ es n hd=> ?_;exact⟨x.1,⟨_,_,x.2.1,x.2.2.1,by rw[←a.1];exact g _ (.head _),λ vs q=>by rw[e]at q;change _=_ at q;rw[show _=Data.dict es n from hd]at q;contradiction⟩,ih b λ p hp=>g p (.tail _ hp)⟩
theorem pH:∀{Vz V0:List α} {m:List β},aW r (Vz++V0) m->∃m₁ m₂,m=m₁++m₂/\aW r Vz m₁/\aW r V0 m₂:=by
 intro Vz;induction Vz with
 | nil=>exact λ h=>⟨[],_,rfl, .nil,h⟩
 | cons a l ih=>
  intro V0 m h;refine dY h.inv_cons λ b t zq x y=> ?_;subst zq;refine dY (ih y) λ m₁ m₂ zq2 h1 h2=> ?_;subst zq2;exact⟨_::m₁,m₂,rfl, .cons x h1,h2⟩
theorem F4(hc:C.comp=W9):C.envs=C.env::C.outer:=by unfold Cx.envs;rw[hc]
theorem aE.funFrames{s:aw}{os:Lo}{fr:Tf}{m:Tm}(x:aE C ads σ s os fr m)(ok:bc w mg mb bud C)(hc:C.comp=W9):s.heap.FunFrames C.base (C.env::C.outer):=by
 refine kD x.F.ns λ oL es ep hL hd _=> ?_;refine cY ok.fro λ f it e hf=> ?_;have h:=x.frs;rw[e]at h;refine dY (pH h) λ fr₁ Tg zq2 h1 h2=> ?_;subst zq2;exact⟨by show C.scope.kind≠_;rw[ok.kind];decide,⟨C.L,oL,by show W6 C.fa=_;rw[(ok.own hc).1],(ok.own hc).2,hL,λ vs q=>by rw[hd]at q;contradiction⟩,F1 hf h1 λ p hp=>(x.N p (cu _ (bU _ hp))).1⟩
theorem aE.slots{s:aw}{os:Lo}{fr:Tf}{m:Tm}(x:aE C ads σ s os fr m)(ok:bc w mg mb bud C)(hc:C.comp=W9){h':bS}{tk:Nat}(hs:bS.SlotsOnly ((C.env::C.outer).filterMap (·.frame)) s.heap h'):
  ∃fr',aE C ads σ { s with heap:=h',toks:=tk } os fr' m/\fr'.map (·.1)=fr.map (·.1):=by
 refine cY ok.fro λ f it ef hf=> ?_;have hfl:(C.env::C.outer).filterMap (·.frame)=C.L::f.map (·.1):=by
  rw[List.filterMap_cons,F0 hf];show C.fa::_=_;rw[(ok.own hc).1]
 rw[hfl]at hs;have hsub:∀b,b∈f.map (·.1)->b∈fr.map (·.1):=λ b hb=>by
  rw[x.frs.keys,ef,eJ];exact bU _ hb
 refine kD x.F.ns λ oL es ep hL hd r=> ?_;refine cv (hs.2.2 _ _ hL) λ sl hL'=> ?_;have hfr:=x.frs;rw[ef]at hfr;refine dY (pH hfr) λ fr₁ Tg efr g1 g2=> ?_;have hdict:∀p∈fr,p.1∈f.map (·.1)->eP p.2=W9:=λ p hp hm=>by
  rw[←fC.keys g1]at hm;have hin:p∈fr₁:=by
   rw[efr]at hp;refine c_ (bV.mp hp) (λ q=> ?_) (λ q=> ?_)
   ·exact q
   ·refine aj (cZ.mp hm) λ p' hp' e'=> ?_
    have hn:= (cC.mp x.nd).2.1;rw[efr,eJ]at hn;exact((cC.mp hn).2.2 p'.1 (gN hp') p.1 (gN q) e').elim
  have:∀{l:List Env} {f f':Tf},aW (kI C.base) l f->fC f f'->∀p∈f',eP p.2=W9:=by
   intro l f f' h1 h2;induction h1 generalizing f' with
   | nil=>cases h2;intro p hp;cases hp
   | cons x y ih=>
    cases h2 with
    | cons a b=>
     intro p hp;refine c_ (bR.mp hp) (λ zr=> ?_) (λ hp=> ?_)
     ·subst zr
      refine lP x.2.2.2 λ es n hd=> ?_;refine aj a.2 λ sl e _=> ?_;rw[e];unfold eP;simp only[hd]
     ·exact ih b p hp
  exact this hf g1 p hin
 have fix:∀l:List (ak×Obj),(∀p∈l,p∈fr/\s.heap.get? p.1=W6 p.2/\p.1≠C.L)->∃l',fC l l'/\(∀p∈l',h'.get? p.1=W6 p.2)/\l'.map (·.1)=l.map (·.1):=by
  intro l;induction l with
  | nil=>exact λ _=>⟨[], .nil,(λ _ h=>nomatch h),rfl⟩
  | cons p l ih=>
   intro hl;refine cO (ih λ q hq=>hl q (.tail _ hq)) λ l' h1 h2 h3=> ?_;refine cE (hl p (.head _)) λ i1 i2 i3=> ?_
   by_cases hm:p.1∈f.map (·.1)
   ·refine cv (hs.2.2 _ _ i2) λ sl e=> ?_
    refine⟨(p.1,{ p.2 with slots:=sl })::l', .cons ⟨rfl,sl,rfl,λ q=> ?_⟩ h1,λ q hq=> ?_,by rw[eW,eW,h3]⟩
    ·rw[hdict p i1 hm]at q;contradiction
    ·refine c_ (bR.mp hq) (λ zr=> ?_) (λ hq=> ?_)
     ·subst zr
      exact e
     ·exact h2 q hq
   ·refine⟨p::l', .cons ⟨rfl,p.2.slots,rfl,λ _=>rfl⟩ h1,λ q hq=> ?_,by rw[eW,eW,h3]⟩
    refine c_ (bR.mp hq) (λ zr=> ?_) (λ hq=> ?_)
    ·subst zr
     refine(hs.2.1 _ λ q=> ?_).trans i2;refine c_ (bR.mp q) (λ q=> ?_) (λ q=> ?_)
     ·exact i3 q
     ·exact hm q
    ·exact h2 q hq
 refine cO (fix fr λ p hp=>⟨hp,(x.N p (cu _ hp)).1,(x.N p (cu _ hp)).2.1⟩) λ fr' f1 f2 f3=> ?_;have other:∀b o,s.heap.get? b=W6 o->b≠C.L->b ∉ fr.map (·.1)->h'.get? b=W6 o:=λ b o h h1 h2=>(hs.2.1 b λ q=>by
  refine c_ (bR.mp q) (λ q=> ?_) (λ q=> ?_)
  ·exact h1 q
  ·exact h2 (hsub _ q)).trans h
 refine⟨fr',⟨x.hgens,x.hdrawn,x.hos,⟨⟨_,es,ep,hL',hd,r⟩,λ b o e=>other b o (x.F.keep b o e) (λ q=> ?_) λ q=> ?_,x.F.above⟩,x.loc,λ p hp=> ?_,x.len,x.objs,by rw[f3];exact x.nd,x.frs.trans f1,x.ini⟩,f3⟩
 ·subst q
  exact absurd (i7 (ed e) x.F.above) (gR _)
 ·refine aj (cZ.mp q) λ p hp e'=> ?_
  have:= (x.N p (cu _ hp)).2.2;rw[e',e]at this;contradiction
 ·refine c_ (bV.mp hp) (λ q=> ?_) (λ q=> ?_)
  ·have hN:=x.N p (bU _ q)
   refine aj (js q) λ j h1 _=> ?_;exact⟨other _ _ hN.1 hN.2.1 λ q'=>(cC.mp x.nd).2.2 p.1 (dH h1) p.1 q' rfl,hN.2⟩
  ·have hm:p.1∈fr.map (·.1):=by rw[←f3];exact gN q
   refine aj (cZ.mp hm) λ p' hp' e=> ?_;exact⟨f2 p q,e ▸ (x.N p' (cu _ hp')).2⟩
def iR(C:Cx)(ads:Ld)(k:Nat)(e:az)(s:aw)(fl:az):Prop:=
 ∃a oe vs,ads[k]? =W6 a/\e= .ref a/\s.heap.get? a=W6 oe/\oe.data= .fields vs/\1<vs.size/\
  ∃T oT ts,vs[1]? =W6 (.ref T)/\C.g.get? T=W7/\T ∉ ads/\T≠C.L/\T ∉ C.fro.map (·.1)/\s.heap.get? T=W6 oT/\oT.data= .fields ts/\ts[3]? =W6 fl
theorem F5(h:jO objs k):∃ao,objs[k]? =W6 ao:=by
 obtain⟨d,h | h⟩:=h
 ·exact⟨_,h⟩
 ·exact⟨_,h⟩
theorem F6{k:Nat}{o:Obj}{vs:Array az}{os:Lo}(hr:aW (cy ads) σ.objs os)(hk:jO σ.objs k)(ho:os[k]? =W6 o)(hd:o.data= .fields vs)(v:az):
  ∃x ao,σ.objs[k]? =W6 ao/\o=gV x vs/\cy ads ao (gV x (vs.setIfInBounds 1 v)):=by
 obtain⟨d,hk | hk⟩:=hk
 ·refine CB (hr.at hk ho) λ x vs' hx e h1 h2=> ?_
  subst e;injection hd with zq;subst zq
  exact⟨x,_,hk,rfl,x,_,hx,rfl,by simpa using h1,by simpa using h2⟩
 ·refine dY (hr.at hk ho) λ x vs' hx e h1=> ?_
  subst e;injection hd with zq;subst zq
  exact⟨x,_,hk,rfl,x,_,hx,rfl,by simpa using h1⟩
theorem aE.ofRest{s SP:aw}{os:Lo}{fr:Tf}{m:Tm}(x:aE C ads σ SP os fr m)(h:SP=s):aE C ads σ s os fr m:=h ▸ x
theorem nD{E:Tv}{s:aw}{os:Lo}{fr:Tf}{m:Tm}{k:Nat}{e:az}{Q:Unit->aw->Prop}(ok:bc w mg mb bud C)(hc:C.comp=W9)(x:aE C ads σ s os fr m)(hk:jO σ.objs k)(h:rM C ads k e s)
  (q:∀h' tk os' fr',aE C ads σ { s with heap:=h',toks:=tk } os' fr' m->iR C ads k e { s with heap:=h',toks:=tk } (er C.L)->Q () { s with heap:=h',toks:=tk }):aC (ag pw w) C.A (jb e C.env) Q E s:=by
 revert h;refine o_ λ a oe vs ha zq4 Uh hd hsz Ug=> ?_;subst zq4;have hfa:= (ok.own hc).1;have hfr:C.env.frame=W6 C.L:=by show W6 C.fa=_;rw[hfa]
 have hA:C.A.frames=W6 (C.env::C.outer):=by show W6 C.envs=_;rw[F4 hc]
 rw[hfa]at Ug;have entry:∀(head:az) (U3:Bool) (s₁:aw) (os₁:Lo) (fr₁:Tf),aE C ads σ s₁ os₁ fr₁ m->s₁.gens=s.gens/\s₁.drawn=s.drawn/\s₁.os=s.os->s₁.heap.get? a=W6 oe->
   aC (ag pw w) C.A (do let fa ←frameOf C.env;let pl ←entryPlaceOf C.L U3;let b ←EntryCells.newEntry head fa .none (er C.L) .none pl;setField (.ref a) 1 b) Q E s₁:=by
  intro head U3 s₁ os₁ fr₁ VY TX hoe₁;refine aB (wpAny_frameOf_fun (L:=C.L) hA (VY.funFrames ok hc) hfr λ h₁ VN=> ?_);refine aj (VY.slots (tk:=s₁.toks) ok hc VN) λ Tg Uo _=> ?_;refine aB (wpAny_entryPlaceOf λ pl Ur=> ?_);unfold EntryCells.newEntry newFields;refine aB (oX ?_ (Ur.sizeOk5 _ _ _ _ _));refine cv (F5 hk) λ Vx UR=> ?_;refine il (Uo.obj UR) λ a' o' Va UQ _ WT _=> ?_;rw[ha]at Va;obtain rfl:=bQ Va;have hoe₂:h₁.get? a=W6 oe:=by
   have hnotf:a ∉ (C.env::C.outer).filterMap (·.frame):=λ hm=>by
    refine ni ((VY.funFrames ok hc).mem hm) λ _ o ho hnf=> ?_;rw[hoe₁]at ho;(injection ho with zq;subst zq);exact hnf vs hd
   exact(VN.2.1 a hnotf).trans hoe₁
  have:o'=oe:=bQ (WT.symm.trans hoe₂);subst this;refine dY (F6 Uo.objs hk UQ hd (di h₁.objs.size)) λ y ao hk₂ Tp hao=> ?_;subst Tp
  generalize hob:({ cls:= .type "traceback",dict:=W7,data:= .fields ([head, .ref C.L, .none,er C.L, .none]++(if pl.isEmpty then List.replicate 6 ja else pl)).toArray }:Obj)=ob
  have x₃:=Uo.junk ob s₁.toks;have he₃:(h₁.push ob).get? a=W6 (gV y vs):=dt _ hoe₂;have hf:ob.isFreed=W9:=by rw[←hob];rfl
  refine wpAny_setField he₃ rfl hsz ?_;have x₄:=x₃.upd (tk:=s₁.toks) (f:=i9 (·.setIfInBounds 1 (di h₁.objs.size))) ha UQ rfl rfl (ao:=ao) hao;have hset:σ.objs.set k ao=σ.objs:=by
   apply List.ext_getElem?;intro i
   by_cases hi:i=k
   ·subst hi;rw[hk₂];rw[oR (dP.mp hk₂).1]
   ·rw[List.getElem?_set_ne (Ne.symm hi)]
  obtain⟨UX,x₅⟩:∃UX,aE C ads σ { s with heap:= (h₁.push ob).update a (i9 (·.setIfInBounds 1 (di h₁.objs.size))),toks:=s₁.toks } UX Tg m:=by
   have:(⟨σ.loc,σ.objs.set k ao⟩:AS)=σ:=by rw[hset]
   rw[this]at x₄;refine⟨_,x₄.ofRest ?_⟩;show (⟨_,s₁.gens,s₁.drawn,s₁.toks,s₁.os⟩:aw)=_;rw[TX.1,TX.2.1,TX.2.2]
  have VA:(({ s with heap:= (h₁.push ob).update a (i9 (·.setIfInBounds 1 (di h₁.objs.size))),toks:=s₁.toks }:aw))={ s₁ with heap:= (h₁.push ob).update a (i9 (·.setIfInBounds 1 (di h₁.objs.size))) }:=by
   show (⟨_,_,_,_,_⟩:aw)=⟨_,s₁.gens,s₁.drawn,s₁.toks,s₁.os⟩;rw[TX.1,TX.2.1,TX.2.2]
  refine VA ▸ q _ s₁.toks UX Tg x₅ ?_
  ·have hTe:h₁.objs.size≠a:=Nat.ne_of_gt (ed hoe₂)
   have lt:∀b o,h₁.get? b=W6 o->b≠h₁.objs.size:=λ b o hb e=>by subst e;exact absurd (ed hb) (gR _)
   refine⟨a,_,_,ha,rfl,mZ _ he₃ rfl,rfl,by simp[hsz],h₁.objs.size,ob,_,by simp[hsz], ?_, ?_, ?_, ?_, ?_,by rw[←hob], ?_⟩
   ·cases q':C.g.get? h₁.objs.size with
    | none=>rfl
    | some o=>exact absurd rfl (lt _ _ (Uo.F.keep _ _ q'))
   ·intro hm
    refine cv (iE hm) λ j hj=> ?_;have lj:j<os₁.length:=by rw[Uo.len];exact(dP.mp hj).1
    exact lt _ _ (Uo.N _ (bU _ (eI hj (bP lj)))).1 rfl
   ·intro e
    refine jL Uo.F.ns λ oL _ _ hL _=> ?_;exact lt _ _ hL e.symm
   ·intro hm
    rw[←Uo.frs.keys]at hm;refine aj (cZ.mp hm) λ p hp e=> ?_;exact lt _ _ (Uo.N p (cu _ hp)).1 e
   ·exact(mY _ _ (Ne.symm hTe)).trans (fx h₁ hf)
   ·first | (simp;done) | (rcases Ur with rfl | ⟨_,_,_,_,_,_,_,rfl⟩ <;> simp)
 unfold jb;simp only[hfr];revert Ug;refine fz (λ h1=> ?_) (λ zr=> ?_)
 ·refine aB (ig Uh hd h1 ?_)
  rw[if_neg (by decide)]
  exact entry .none _ s os fr x ⟨rfl,rfl,rfl⟩ Uh
 ·revert zr
  refine CK λ T oT ts fl h1 VD Vn Vw VH hT Vm h3 hfl=> ?_;refine aB (ig Uh hd h1 ?_);rw[if_pos (show (di T !=ja)=W8 from by simp)]
  refine aB (ig hT Vm h3 ?_);revert hfl;refine fz (λ zr=> ?_) (λ zr=> ?_)
  ·subst zr
   rw[if_neg (show ¬ ((ja==er C.L)=W8) from by simp[er])]
   refine aB (wpAny_setField hT Vm (uO.mp h3).1 ?_);have hTe:T≠a:=λ e=>Vn (e ▸ dH ha);have x':=x.off (h':=s.heap.update T (i9 (·.setIfInBounds 3 ja))) (tk:=s.toks) λ b o hb hc=>by
    refine(mY _ _ λ e=> ?_).trans hb;subst e;revert hc;refine gj (λ hc=> ?_) (λ hc=> ?_) (λ hc=> ?_) (λ hc=> ?_)
    ·exact Vw hc
    ·exact Vn hc
    ·rw[x.frs.keys]at hc;exact VH hc
    ·rw[VD]at hc;contradiction
   exact entry (.ref T) _ _ os fr x' ⟨rfl,rfl,rfl⟩ ((mY _ _ hTe).trans Uh)
  ·subst zr
   rw[if_pos (show (er C.L==er C.L)=W8 from by simp)]
   exact bW (q s.heap s.toks os fr x ⟨a,oe,vs,ha,rfl,Uh,hd,hsz,T,oT,ts,h1,VD,Vn,Vw,VH,hT,Vm,h3⟩)
theorem lZ{E:Tv}{s:aw}{os:Lo}{fr:Tf}{m:Tm}{k:Nat}{e:az}{fl:az}{Q:Unit->aw->Prop}(x:aE C ads σ s os fr m)(h:iR C ads k e s fl)(to:Option ak)
  (q:∀h',aE C ads σ { s with heap:=h' } os fr m->iR C ads k e { s with heap:=h' } (to.elim .none λ f=>er f)->Q () { s with heap:=h' }):aC (ag pw w) C.A (setFlight e to) Q E s:=by
 revert h;refine pa λ a oe vs ha zq4 Uh hd hsz T oT ts h1 VD Vn Vw VH hT Vm h3=> ?_;subst zq4;have hsz3:3<ts.size:= (uO.mp h3).1;have hTe:T≠a:=λ e=>Vn (e ▸ dH ha);unfold setFlight;refine aB (ig Uh hd h1 ?_);rw[if_pos (show (di T !=ja)=W8 from by simp)]
 refine wpAny_setField hT Vm hsz3 (q _ ?_ ?_)
 ·refine(x.off (tk:=s.toks) λ b o hb hc=> ?_)
  refine(mY _ _ λ e=> ?_).trans hb;subst e;revert hc;refine gj (λ hc=> ?_) (λ hc=> ?_) (λ hc=> ?_) (λ hc=> ?_)
  ·exact Vw hc
  ·exact Vn hc
  ·rw[x.frs.keys]at hc;exact VH hc
  ·rw[VD]at hc;contradiction
 ·exact⟨a,oe,vs,ha,rfl,(mY _ _ hTe).trans Uh,hd,hsz,T,_,_,h1,VD,Vn,Vw,VH,mZ _ hT (Obj.isFreed_of_fields (Obj.data_mapFields Vm _)),Obj.data_mapFields Vm _,by simp[hsz3]⟩
theorem iR.rep(h:iR C ads k e s fl)(hf:fl= .none∨fl=er C.fa):rM C ads k e s:=by
 revert h;refine pa λ a oe vs ha zq4 Uh hd hsz T oT ts h1 VD Vn Vw VH hT Vm h3=> ?_;subst zq4;exact⟨a,oe,vs,ha,rfl,Uh,hd,hsz, .inr ⟨T,oT,ts,fl,h1,VD,Vn,Vw,VH,hT,Vm,h3,hf⟩⟩
end
end
section
open PySem.Calls
section
variable{w:aQ}{mg mb:Tm}{C:Cx}{D:Dx}{ads:Ld}{σ τ:AS}{bud:Nat}{P:Prop}
theorem AV.sim_ok(h:AV.sim a b P):(∀v,aU ads a v->aU ads b v)/\P:=by
 induction a <;> induction b
 case non.non=>exact⟨λ _ c=>c,h⟩
 case bo.bo=>obtain⟨h1,h2⟩:_/\P:=h;subst h1;exact⟨λ _ c=>c,h2⟩
 case num.num=>obtain⟨h1,h2⟩:_/\P:=h;subst h1;exact⟨λ _ c=>c,h2⟩
 case st.st=>obtain⟨h1,h2⟩:_/\P:=h;subst h1;exact⟨λ _ c=>c,h2⟩
 case by_.by_=>obtain⟨h1,h2⟩:_/\P:=h;subst h1;exact⟨λ _ c=>c,h2⟩
 case ob.ob=>obtain⟨h1,h2⟩:=bA h;rw[dc h1];exact⟨λ _ c=>c,h2⟩
 case gl.gl=>obtain⟨h1,h2⟩:_/\P:=h;subst h1;exact⟨λ _ c=>c,h2⟩
 all_goals exact aF h
theorem pI:∀{a b:List AV},pv a b P->(∀v,bk ads a v->bk ads b v)/\P:=by
 intro a;induction a with
 | nil=>
  intro b h;induction b using gS with
  | nil=>exact⟨λ _ c=>c,h⟩
  | cons _ _=>exact h.elim
 | cons a r ih=>
  intro b h;induction b using gS with
  | nil=>exact h.elim
  | cons b t=>
   refine aI (AV.sim_ok (ads:=ads) h) λ h1 h2=> ?_;refine aI (ih h2) λ h3 h4=> ?_;refine⟨λ v c=> ?_,h4⟩;cases c with
   | cons x y=>exact .cons (h1 _ x) (h3 _ y)
theorem iw{a b:ab}(h:(a==b)=W8):a=b:=by simpa using h
theorem xf:∀{a b:List (ab×AV)},rR a b P->(∀v,iJ ads a v->iJ ads b v)/\P:=by
 intro a;induction a with
 | nil=>
  intro b h;induction b using gS with
  | nil=>exact⟨λ _ c=>c,h⟩
  | cons _ _=>exact h.elim
 | cons a r ih=>
  intro b h;induction b using gS with
  | nil=>exact h.elim
  | cons b t=>
   refine aI (bA h) λ h0 h=> ?_;refine aI (AV.sim_ok (ads:=ads) h) λ h1 h2=> ?_;refine aI (ih h2) λ h3 h4=> ?_;refine⟨λ v c=> ?_,h4⟩;cases c with
   | cons x y=>exact .cons ⟨iw h0 ▸ x.1,h1 _ x.2⟩ (h3 _ y)
theorem l0:∀{x:List AV} {y:Ll},bZ iL x=W6 y->x=y.map .st:=by
 intro x;induction x with
 | nil=>
  intro y h
  (injection h with zq;subst zq);rfl
 | cons a r ih=>
  intro y h;rw[jP]at h;refine aj (bO.mp h) λ b h1 h2=> ?_;refine aj (ez.mp h2) λ z h3 zq2=> ?_;subst zq2;cases a <;> cases h1
  rw[ih h3];rfl
theorem rW:∀{x:List AV} {y:List Int},bZ ir x=W6 y->x=y.map .num:=by
 intro x;induction x with
 | nil=>
  intro y h
  (injection h with zq;subst zq);rfl
 | cons a r ih=>
  intro y h;rw[jP]at h;refine aj (bO.mp h) λ b h1 h2=> ?_;refine aj (ez.mp h2) λ z h3 zq2=> ?_;subst zq2;cases a <;> cases h1
  rw[ih h3];rfl
theorem nE(h:kL o y P):o=W6 y/\P:=by
 induction o with
 | none=>exact h.elim
 | some x=>exact⟨by rw[h.1],h.2⟩
theorem F7{f:ak->Nat->Prop}{M:AO->Prop}(h:if h:b.ctorIdx=0 then AO.inst.elim b h f else B)(k:∀x y,f x y->M (.inst x y))(e:B->M b):M b:=by
 by_cases hc:b.ctorIdx=0
 ·exact AO.inst.elim (motive:=λ b=>∀hc:b.ctorIdx=0,AO.inst.elim b hc f->M b) b hc (λ x y _ h=>k x y h) hc (cb (dif_pos hc) h)
 ·exact e (cb (dif_neg hc) h)
theorem F8{f:(List (ab×AV))->Prop}{M:AO->Prop}(h:if h:b.ctorIdx=1 then AO.dic.elim b h f else B)(k:∀x,f x->M (.dic x))(e:B->M b):M b:=by
 by_cases hc:b.ctorIdx=1
 ·exact AO.dic.elim (motive:=λ b=>∀hc:b.ctorIdx=1,AO.dic.elim b hc f->M b) b hc (λ x _ h=>k x h) hc (cb (dif_pos hc) h)
 ·exact e (cb (dif_neg hc) h)
theorem F9{f:(List AV)->Prop}{M:AO->Prop}(h:if h:b.ctorIdx=2 then AO.lst.elim b h f else B)(k:∀x,f x->M (.lst x))(e:B->M b):M b:=by
 by_cases hc:b.ctorIdx=2
 ·exact AO.lst.elim (motive:=λ b=>∀hc:b.ctorIdx=2,AO.lst.elim b hc f->M b) b hc (λ x _ h=>k x h) hc (cb (dif_pos hc) h)
 ·exact e (cb (dif_neg hc) h)
theorem xg{f:(List (List Nat))->Prop}{M:AO->Prop}(h:if h:b.ctorIdx=3 then AO.lstS.elim b h f else B)(k:∀x,f x->M (.lstS x))(e:B->M b):M b:=by
 by_cases hc:b.ctorIdx=3
 ·exact AO.lstS.elim (motive:=λ b=>∀hc:b.ctorIdx=3,AO.lstS.elim b hc f->M b) b hc (λ x _ h=>k x h) hc (cb (dif_pos hc) h)
 ·exact e (cb (dif_neg hc) h)
theorem xh{f:(List Int)->Prop}{M:AO->Prop}(h:if h:b.ctorIdx=4 then AO.lstI.elim b h f else B)(k:∀x,f x->M (.lstI x))(e:B->M b):M b:=by
 by_cases hc:b.ctorIdx=4
 ·exact AO.lstI.elim (motive:=λ b=>∀hc:b.ctorIdx=4,AO.lstI.elim b hc f->M b) b hc (λ x _ h=>k x h) hc (cb (dif_pos hc) h)
 ·exact e (cb (dif_neg hc) h)
theorem F_{f:(List AV)->Prop}{M:AO->Prop}(h:if h:b.ctorIdx=5 then AO.tup.elim b h f else B)(k:∀x,f x->M (.tup x))(e:B->M b):M b:=by
 by_cases hc:b.ctorIdx=5
 ·exact AO.tup.elim (motive:=λ b=>∀hc:b.ctorIdx=5,AO.tup.elim b hc f->M b) b hc (λ x _ h=>k x h) hc (cb (dif_pos hc) h)
 ·exact e (cb (dif_neg hc) h)
theorem xi{f:(List (List Nat))->Prop}{M:AO->Prop}(h:if h:b.ctorIdx=6 then AO.tupS.elim b h f else B)(k:∀x,f x->M (.tupS x))(e:B->M b):M b:=by
 by_cases hc:b.ctorIdx=6
 ·exact AO.tupS.elim (motive:=λ b=>∀hc:b.ctorIdx=6,AO.tupS.elim b hc f->M b) b hc (λ x _ h=>k x h) hc (cb (dif_pos hc) h)
 ·exact e (cb (dif_neg hc) h)
theorem Ga{f:(List Nat)->Prop}{M:AO->Prop}(h:if h:b.ctorIdx=7 then AO.bar.elim b h f else B)(k:∀x,f x->M (.bar x))(e:B->M b):M b:=by
 by_cases hc:b.ctorIdx=7
 ·exact AO.bar.elim (motive:=λ b=>∀hc:b.ctorIdx=7,AO.bar.elim b hc f->M b) b hc (λ x _ h=>k x h) hc (cb (dif_pos hc) h)
 ·exact e (cb (dif_neg hc) h)
theorem Gb{f:Nat->Prop}{M:AO->Prop}(h:if h:b.ctorIdx=8 then AO.rng.elim b h f else B)(k:∀x,f x->M (.rng x))(e:B->M b):M b:=by
 by_cases hc:b.ctorIdx=8
 ·exact AO.rng.elim (motive:=λ b=>∀hc:b.ctorIdx=8,AO.rng.elim b hc f->M b) b hc (λ x _ h=>k x h) hc (cb (dif_pos hc) h)
 ·exact e (cb (dif_neg hc) h)
theorem Gc{f:AV->Prop}{M:AO->Prop}(h:if h:b.ctorIdx=9 then AO.cel.elim b h f else B)(k:∀x,f x->M (.cel x))(e:B->M b):M b:=by
 by_cases hc:b.ctorIdx=9
 ·exact AO.cel.elim (motive:=λ b=>∀hc:b.ctorIdx=9,AO.cel.elim b hc f->M b) b hc (λ x _ h=>k x h) hc (cb (dif_pos hc) h)
 ·exact e (cb (dif_neg hc) h)
theorem Gd{f:Nat->Prop}{M:AO->Prop}(h:if h:b.ctorIdx=10 then AO.exc.elim b h f else B)(k:∀x,f x->M (.exc x))(e:B->M b):M b:=by
 by_cases hc:b.ctorIdx=10
 ·exact AO.exc.elim (motive:=λ b=>∀hc:b.ctorIdx=10,AO.exc.elim b hc f->M b) b hc (λ x _ h=>k x h) hc (cb (dif_pos hc) h)
 ·exact e (cb (dif_neg hc) h)
theorem Ge{f:Nat->Prop}{M:AO->Prop}(h:if h:b.ctorIdx=11 then AO.exn.elim b h f else B)(k:∀x,f x->M (.exn x))(e:B->M b):M b:=by
 by_cases hc:b.ctorIdx=11
 ·exact AO.exn.elim (motive:=λ b=>∀hc:b.ctorIdx=11,AO.exn.elim b hc f->M b) b hc (λ x _ h=>k x h) hc (cb (dif_pos hc) h)
 ·exact e (cb (dif_neg hc) h)
theorem Gf{M:AO->Prop}(h:if h:b.ctorIdx=12 then AO.ex0.elim b h f else B)(k:f->M .ex0)(e:B->M b):M b:=by
 by_cases hc:b.ctorIdx=12
 ·exact AO.ex0.elim (motive:=λ b=>∀hc:b.ctorIdx=12,AO.ex0.elim b hc f->M b) b hc (λ _ h=>k h) hc (cb (dif_pos hc) h)
 ·exact e (cb (dif_neg hc) h)
theorem Gg{f:Obj->Prop}{M:AO->Prop}(h:if h:b.ctorIdx=13 then AO.raw.elim b h f else B)(k:∀x,f x->M (.raw x))(e:B->M b):M b:=by
 by_cases hc:b.ctorIdx=13
 ·exact AO.raw.elim (motive:=λ b=>∀hc:b.ctorIdx=13,AO.raw.elim b hc f->M b) b hc (λ x _ h=>k x h) hc (cb (dif_pos hc) h)
 ·exact e (cb (dif_neg hc) h)
theorem Gh{f:Nat->Prop}{M:AO->Prop}(h:if h:b.ctorIdx=14 then AO.exd.elim b h f else B)(k:∀x,f x->M (.exd x))(e:B->M b):M b:=by
 by_cases hc:b.ctorIdx=14
 ·exact AO.exd.elim (motive:=λ b=>∀hc:b.ctorIdx=14,AO.exd.elim b hc f->M b) b hc (λ x _ h=>k x h) hc (cb (dif_pos hc) h)
 ·exact e (cb (dif_neg hc) h)
theorem Gi{M:AO->Prop}(h:if h:b.ctorIdx=15 then AO.cl0.elim b h f else B)(k:f->M .cl0)(e:B->M b):M b:=by
 by_cases hc:b.ctorIdx=15
 ·exact AO.cl0.elim (motive:=λ b=>∀hc:b.ctorIdx=15,AO.cl0.elim b hc f->M b) b hc (λ _ h=>k h) hc (cb (dif_pos hc) h)
 ·exact e (cb (dif_neg hc) h)
theorem Gj{f:ab->Prop}{M:AO->Prop}(h:if h:b.ctorIdx=16 then AO.cod.elim b h f else B)(k:∀x,f x->M (.cod x))(e:B->M b):M b:=by
 by_cases hc:b.ctorIdx=16
 ·exact AO.cod.elim (motive:=λ b=>∀hc:b.ctorIdx=16,AO.cod.elim b hc f->M b) b hc (λ x _ h=>k x h) hc (cb (dif_pos hc) h)
 ·exact e (cb (dif_neg hc) h)
theorem Gk{f:Nat->Nat->(List (ab×Nat))->Prop}{M:AO->Prop}(h:if h:b.ctorIdx=17 then AO.lam.elim b h f else B)(k:∀x y z,f x y z->M (.lam x y z))(e:B->M b):M b:=by
 by_cases hc:b.ctorIdx=17
 ·exact AO.lam.elim (motive:=λ b=>∀hc:b.ctorIdx=17,AO.lam.elim b hc f->M b) b hc (λ x y z _ h=>k x y z h) hc (cb (dif_pos hc) h)
 ·exact e (cb (dif_neg hc) h)
theorem Gl{f:(List (Nat×Nat×Nat))->Prop}{M:AO->Prop}(h:if h:b.ctorIdx=18 then AO.tab.elim b h f else B)(k:∀x,f x->M (.tab x))(e:B->M b):M b:=by
 by_cases hc:b.ctorIdx=18
 ·exact AO.tab.elim (motive:=λ b=>∀hc:b.ctorIdx=18,AO.tab.elim b hc f->M b) b hc (λ x _ h=>k x h) hc (cb (dif_pos hc) h)
 ·exact e (cb (dif_neg hc) h)
theorem Gm{f:(List Int)->Obj->Prop}{M:AO->Prop}(h:if h:b.ctorIdx=19 then AO.lstR.elim b h f else B)(k:∀x y,f x y->M (.lstR x y))(e:B->M b):M b:=by
 by_cases hc:b.ctorIdx=19
 ·exact AO.lstR.elim (motive:=λ b=>∀hc:b.ctorIdx=19,AO.lstR.elim b hc f->M b) b hc (λ x y _ h=>k x y h) hc (cb (dif_pos hc) h)
 ·exact e (cb (dif_neg hc) h)
def dy(ads:Ld)(a b:AO)(P:Prop):Prop:= (∀o,cy ads a o->cy ads b o)/\P
theorem dy.of(h:a=b/\P):dy ads a b P:=⟨λ _ c=>h.1 ▸ c,h.2⟩
theorem dy.nat{f:Nat->AO}(h:aG (aO x y) P):dy ads (f x) (f y) P:= .of ⟨congrArg f (dc (bA h).1),(bA h).2⟩
theorem Gn{C d C' d':Nat}(h:aG (aO C C') (aG (aO d d') P)):dy ads (.inst C d) (.inst C' d') P:=by
 have h1:=bA h;have h2:=bA h1.2;exact .of ⟨by rw[dc h1.1,dc h2.1],h2.2⟩
theorem Gp(h:kL (bZ iL x) y P):dy ads (.lst x) (.lstS y) P:=by
 have h:=nE h;rw[l0 h.1];exact⟨λ _ c=>c,h.2⟩
theorem Gq(h:kL (bZ ir x) y P):dy ads (.lst x) (.lstI y) P:=by
 have h:=nE h;rw[rW h.1];exact⟨λ _ c=>c,h.2⟩
theorem Gr(h:kL (bZ iL x) y P):dy ads (.tup x) (.tupS y) P:=by
 have h:=nE h;rw[l0 h.1];exact⟨λ _ c=>c,h.2⟩
theorem AO.sim_ok(h:AO.sim a b P):(∀o,cy ads a o->cy ads b o)/\P:=by
 show dy ads a b P;induction a with
 | inst C d=>exact F7 (M:=λ t=>dy ads (.inst C d) t P) h (λ _ _ h=>Gn h) aF
 | dic l=>exact F8 (M:=λ t=>dy ads (.dic l) t P) h (λ _ h=>⟨λ _ ⟨es,n,e,r⟩=>⟨es,n,e,(xf (ads:=ads) h).1 _ r⟩,(xf (ads:=ads) h).2⟩) aF
 | lst xs=>exact F9 (M:=λ t=>dy ads (.lst xs) t P) h (λ _ h=>⟨λ _ ⟨es,n,e,r⟩=>⟨es,n,e,(pI (ads:=ads) h).1 _ r⟩,(pI (ads:=ads) h).2⟩) (λ h=>xg (M:=λ t=>dy ads (.lst xs) t P) h (λ _ h=>Gp h) (λ h=>xh (M:=λ t=>dy ads (.lst xs) t P) h (λ _ h=>Gq h) aF))
 | lstS xs=>exact xg (M:=λ t=>dy ads (.lstS xs) t P) h (λ _ h=> .of ⟨congrArg _ h.1,h.2⟩) aF
 | lstI xs=>exact xh (M:=λ t=>dy ads (.lstI xs) t P) h (λ _ h=> .of ⟨congrArg _ h.1,h.2⟩) aF
 | tup xs=>exact F_ (M:=λ t=>dy ads (.tup xs) t P) h (λ _ h=>⟨λ _ ⟨es,n,e,r⟩=>⟨es,n,e,(pI (ads:=ads) h).1 _ r⟩,(pI (ads:=ads) h).2⟩) (λ h=>xi (M:=λ t=>dy ads (.tup xs) t P) h (λ _ h=>Gr h) aF)
 | tupS xs=>exact xi (M:=λ t=>dy ads (.tupS xs) t P) h (λ _ h=> .of ⟨congrArg _ h.1,h.2⟩) aF
 | bar w=>exact Ga (M:=λ t=>dy ads (.bar w) t P) h (λ _ h=> .of ⟨congrArg _ h.1,h.2⟩) aF
 | rng n=>exact Gb (M:=λ t=>dy ads (.rng n) t P) h (λ _ h=> .of ⟨congrArg _ h.1,h.2⟩) aF
 | cel v=>exact Gc (M:=λ t=>dy ads (.cel v) t P) h (λ _ h=>⟨λ _ ⟨u,e,r⟩=>⟨u,e,(AV.sim_ok (ads:=ads) h).1 _ r⟩,(AV.sim_ok (ads:=ads) h).2⟩) aF
 | exc d=>exact Gd (M:=λ t=>dy ads (.exc d) t P) h (λ _ h=> .nat (f:= .exc) h) aF
 | exn d=>exact Ge (M:=λ t=>dy ads (.exn d) t P) h (λ _ h=> .nat (f:= .exn) h) aF
 | ex0=>exact Gf (M:=λ t=>dy ads (.ex0) t P) h (λ h=> .of ⟨rfl,h⟩) aF
 | raw o=>exact Gg (M:=λ t=>dy ads (.raw o) t P) h (λ _ h=> .of ⟨congrArg _ h.1,h.2⟩) aF
 | exd d=>exact Gh (M:=λ t=>dy ads (.exd d) t P) h (λ _ h=> .nat (f:= .exd) h) aF
 | cl0=>exact Gi (M:=λ t=>dy ads (.cl0) t P) h (λ h=> .of ⟨rfl,h⟩) aF
 | cod q=>exact Gj (M:=λ t=>dy ads (.cod q) t P) h (λ _ h=> .of ⟨congrArg _ h.1,h.2⟩) aF
 | lam i c cs=>exact Gk (M:=λ t=>dy ads (.lam i c cs) t P) h (λ _ _ _ h=> .of ⟨by rw[h.1,h.2.1,h.2.2.1],h.2.2.2⟩) aF
 | tab l=>exact Gl (M:=λ t=>dy ads (.tab l) t P) h (λ _ h=> .of ⟨congrArg _ h.1,h.2⟩) aF
 | lstR xs o=>exact Gm (M:=λ t=>dy ads (.lstR xs o) t P) h (λ _ _ h=> .of ⟨by rw[h.1,h.2.1],h.2.2⟩) aF
theorem rX:∀{a b:La},nx a b P->(∀v,aW (cy ads) a v->aW (cy ads) b v)/\P:=by
 intro a;induction a with
 | nil=>
  intro b h;induction b using gS with
  | nil=>exact⟨λ _ c=>c,h⟩
  | cons _ _=>exact h.elim
 | cons a r ih=>
  intro b h;induction b using gS with
  | nil=>exact h.elim
  | cons b t=>
   refine aI (AO.sim_ok (ads:=ads) h) λ h1 h2=> ?_;refine aI (ih h2) λ h3 h4=> ?_;refine⟨λ v c=> ?_,h4⟩;cases c with
   | cons x y=>exact .cons (h1 _ x) (h3 _ y)
theorem Gs:∀{t:List (ab×AV)},ny κ l t P->(∀p∈t,∃v v',l.lookup p.1=W6 v/\AV.toL κ v=W6 v'/\∀u,aU (bz ads κ) v' u->aU (bz ads κ) p.2 u)/\P:=by
 intro t;induction t with
 | nil=>
  intro h;exact⟨(λ _ h=>nomatch h),h⟩
 | cons p r ih=>
  intro h;rw[FN]at h;refine cL (o:= (l.lookup p.1).bind (AV.toL κ)) (λ q=> ?on) λ v' q=> ?os
  case on=>rw[q]at h;exact h.elim
  case os=>
   rw[q]at h;refine aj (bO.mp q) λ v h1 h2=> ?_;refine aI (AV.sim_ok (ads:=bz ads κ) h) λ h3 h4=> ?_;refine aI (ih h4) λ h5 h6=> ?_;refine⟨λ p' hp=> ?_,h6⟩;rcases bR.mp hp with rfl | hp
   ·exact⟨v,v',h1,h2,h3⟩
   ·exact h5 p' hp
theorem rY{κ:Ln}{objs objs':La}{os:Lo}(hr:aW (cy ads) objs os)(hl:os.length=ads.length)(h:iu κ objs=W6 objs'):
  (∀k∈κ,k<ads.length)/\∃os',os'.length=κ.length/\(∀(j k:Nat),κ[j]? =W6 k->os'[j]? =os[k]?)/\aW (cy (bz ads κ)) objs' os':=by
 have ho:aW (λ k a=>(objs[k]?).bind (AO.toL κ)=W6 a) κ objs':=pC h;have TQ:∀k∈κ,k<ads.length:=λ k hk=>by
  refine cv (iE hk) λ i hi=> ?_;refine aj (ho.get hi) λ a _ h2=> ?_;refine aj (bO.mp h2) λ b h3 _=> ?_;rw[←hl,←hr.len];exact(dP.mp h3).1
 refine⟨TQ,κ.map λ k=>(os[k]?).getD default,dq ..,λ j k hk=> ?_,kN (by rw[dq,←ho.len]) λ j a o h1 h2=> ?_⟩
 ·have lk:k<os.length:=by rw[hl];exact TQ k (dH hk)
  rw[fy,hk,Option.map_some,bP lk];rfl
 ·rw[fy]at h2
  refine aj (ez.mp h2) λ k hk zq2=> ?_;subst zq2;have h3:=ho.at hk h1;refine aj (bO.mp h3) λ b h4 h5=> ?_;refine aj (hr.get h4) λ o h6 h7=> ?_;rw[h6];exact xc h7 h5
theorem xj{κ:Ln}{os os':Lo}(TQ:∀k∈κ,k<ads.length)(h:∀(j k:Nat),κ[j]? =W6 k->os'[j]? =os[k]?){p:ak×Obj}(hp:p∈(bz ads κ).zip os'):p∈ads.zip os:=by
 refine aj (js hp) λ j h1 h2=> ?_;refine aj (xb TQ h1) λ k h3 h4=> ?_;rw[h j k h3]at h2;exact eI h4 h2
theorem fW:∀{a b:Ln},aR a b=W8->a=b
 | [], [],_=>rfl
 | a::r,b::t,h=>by
  have h:(aO a b && aR r t)=W8:=h;refine aI (bE.mp h) λ h1 h2=> ?_;rw[dc h1,fW h2]
 | [],_::_,h=>by contradiction
 | _::_, [],h=>by contradiction
theorem kO:∀n,(iM n).length=n
 | 0=>rfl
 | n+1=>by show (iM n++ [n]).length=_;rw[bD,kO n];rfl
theorem rZ:∀{n k:Nat},k<n->(iM n)[k]? =W6 k:=by
 intro n;induction n with
 | zero=>
  intro _ h;exact absurd h (jH _)
 | succ n ih=>
  intro k h;show (iM n++ [n])[k]? =_
  by_cases e:k<n
  ·rw[ib (by rw[kO];exact e)];exact ih e
  ·obtain rfl:k=n:=by lia
   rw[kl (by rw[kO];exact ba _),kO];simp
theorem r5(h:nz ini.length κ=W8)(hp:ini <+:ads):ini <+:bz ads κ:=by
 unfold nz at h;have h2:=fW (bE.mp h).2;revert hp;refine dw λ t SY=> ?_;subst SY;refine⟨bz (ini++t) (κ.drop ini.length), ?_⟩;have:bz (ini++t) κ=bz (ini++t) (κ.take ini.length)++bz (ini++t) (κ.drop ini.length):=by
  unfold bz;rw[←eJ,List.take_append_drop]
 rw[this,h2]
 congr 1
 apply List.ext_getElem?;intro k;unfold bz;rw[fy]
 by_cases e:k<ini.length
 ·rw[rZ e,Option.map_some,ib e,bP e];rfl
 ·rw[m5 (by exact jF ‹_›),m5 (by rw[kO];exact jF ‹_›)];rfl
theorem r6(h:nz n κ=W8):κ.Nodup:=xa (bE.mp h).1
theorem xk:∀{l:List (ab×AV)},l.lookup y=W6 v->(y,v)∈l
 | [],h=>by simp at h
 | (a,b)::r,h=>by
  rw[gO]at h;refine cF (b:=y==a) (λ e=> ?bt) λ e=> ?bf
  case bt=>rw[e]at h;(injection h with zq;subst zq);rw[iw e];exact .head _
  case bf=>rw[e]at h;exact .tail _ (xk h)
theorem aE.fgt{s:aw}{os:Lo}{fr:Tf}{m:Tm}(x:aE C ads σ s os fr m){κ:Ln}(h:nA C.ini.length κ σ τ P):
  ∃os',aE C (bz ads κ) τ s os' fr m/\P:=by
 refine aI (bA h) λ hk h=> ?_;refine cL (o:=iu κ σ.objs) (λ q=> ?on) λ objs' q=> ?os
 case on=>rw[q]at h;exact h.elim
 case os=>
  rw[q]at h;refine rl (rY x.objs x.len q) λ TQ os' hl' Wd UQ=> ?_;refine aI (rX (ads:=bz ads κ) h) λ h1 h2=> ?_;refine aI (Gs (ads:=ads) h2) λ h3 h4=> ?_;have hd:=cC.mp x.nd;refine⟨os',⟨x.hgens,x.hdrawn,x.hos,x.F,λ y v hy=> ?_,λ p hp=> ?_, ?_,h1 _ UQ, ?_,x.frs,r5 hk x.ini⟩,h4⟩
  ·refine dY (h3 _ (xk hy)) λ v0 v1 e1 e2 e3=> ?_
   refine aj (x.loc _ _ e1) λ u e4 e5=> ?_;exact⟨u,e4,e3 _ (nC e5 e2)⟩
  ·refine x.N p ?_
   rcases bV.mp hp with hp | hp
   ·exact bU _ (xj TQ Wd hp)
   ·exact cu _ hp
  ·unfold bz;rw[dq,hl']
  ·refine cC.mpr ⟨rV TQ hd.1 (r6 hk),hd.2.1,λ b h1 c h2=> ?_⟩
   refine aj (iQ TQ h1) λ k _ e=> ?_;exact hd.2.2 b (dH e) c h2
theorem bK.fgt{s:aw}(r:bK C ads σ s){κ:Ln}(h:nA C.ini.length κ σ τ P):∃ads',bK C ads' τ s/\P:=
 let ⟨os,fr,m,x⟩:=r
 let ⟨os',y,p⟩:=x.fgt h
 ⟨_,⟨os',fr,m,y⟩,p⟩
theorem je.fgt{s:aw}{objs objs':La}{os:Lo}{fr:Tf}(x:je D ads objs s os fr){κ:Ln}(hn:κ.Nodup)(q:iu κ objs=W6 objs'):
  (∀k∈κ,k<ads.length)/\gZ D (bz ads κ) objs' s:=by
 refine rl (rY x.objs x.len q) λ TQ os' hl' Wd UQ=> ?_;have hd:=cC.mp x.nd;refine⟨TQ,os',fr,⟨x.hgens,x.hdrawn,x.hos,x.stays,λ p hp=> ?_, ?_,UQ, ?_,x.frs⟩⟩
 ·refine x.N p ?_
  rcases bV.mp hp with hp | hp
  ·exact bU _ (xj TQ Wd hp)
  ·exact cu _ hp
 ·unfold bz;rw[dq,hl']
 ·refine cC.mpr ⟨rV TQ hd.1 hn,hd.2.1,λ b h1 c h2=> ?_⟩
  refine aj (iQ TQ h1) λ k _ e=> ?_;exact hd.2.2 b (dH e) c h2
end
end
section
open PySem.Calls
noncomputable def Gu:List (ab×AV):=
 [("WireFault", .gl (.ref 71)),("Cursor", .gl (.ref 155)),("Section", .gl (.ref 214)),("Wire", .gl (.ref 541)),("upper_text", .gl (.ref 176)),("ascii_text", .gl (.ref 181)),("text_octets", .gl (.ref 186)),("need", .gl (.ref 225)),("take_number", .gl (.ref 232)),("is_figure_sections", .gl (.ref 239))]
noncomputable def Gv:List (ab×AV):=
 [("take_path", .gl (.ref 246)),("take_word", .gl (.ref 251)),("take_quoted", .gl (.ref 265)),("take_name", .gl (.ref 272)),("take_names", .gl (.ref 279)),("take_partial", .gl (.ref 286)),("read_section", .gl (.ref 293)),("is_printable", .gl (.ref 328)),("is_item_code", .gl (.ref 552)),("plain_item", .gl (.ref 564))]
noncomputable def Gw:List (ab×AV):=
 [("section_end", .gl (.ref 571)),("section_here", .gl (.ref 576)),("item_here", .gl (.ref 583)),("read_items", .gl (.ref 588)),("_law_tape", .gl (.ref 596)),("_law_draw", .gl (.ref 603)),("_law_octets", .gl (.ref 608)),("_law_asked", .gl (.ref 615)),("QUOTE_sections", .num 34),("BACKSLASH_sections", .num 92)]
noncomputable def Gx:List (ab×AV):=
 [("MOST_FIGURES_octets", .num 20),("QUOTE_wire", .num 34),("BACKSLASH_wire", .num 92),("MOST_NUMBER", .num 4294967295),("len", .gl (.builtin "len")),("chr", .gl (.builtin "chr")),("ord", .gl (.builtin "ord")),("min", .gl (.builtin "min")),("max", .gl (.builtin "max")),("abs", .gl (.builtin "abs"))]
noncomputable def Gy:List (ab×AV):=
 [("int", .gl (.type "int")),("tuple", .gl (.type "tuple")),("bytes", .gl (.type "bytes")),("bytearray", .gl (.type "bytearray")),("range", .gl (.type "range")),("Exception", .gl (.type "Exception"))]
noncomputable def r7(s:ab):AV:= .st s.cps.toList
noncomputable def Gz:List (ab×AV):=
 [("WORDS", .gl (.ref 187)),("FIELD_WORDS", .gl (.ref 188)),("_law_units", .gl (.ref 589)),("CRLF", .by_ [13,10]),("LETTERS", .by_ ("ABCDEFGHIJKLMNOPQRSTUVWXYZabcdefghijklmnopqrstuvwxyz." :ab).cps.toList),("MACROS",r7 "FAST ALL FULL"),("WHOLE_ITEMS",r7 "RFC822 RFC822.HEADER RFC822.TEXT"),
  ("PLAIN_ITEMS",r7 "FLAGS UID INTERNALDATE RFC822.SIZE ENVELOPE BODY BODYSTRUCTURE MODSEQ")]
noncomputable def r8:List (ab×AV):=Gu++Gv++Gw++Gx++Gy++Gz
noncomputable def pJ(F:Cf)(σ:AS)(x:ab):Option AV:=match F.cells.lookup x with
 | some k=>match σ.objs[k]? with
  | some (.cel v)=>W6 v
  | _=>W7
 | none=>W7
noncomputable def jR(F:Cf)(σ:AS)(x:ab):Option AV:=match F.scope.names.lookup x with
 | some .local=>σ.loc.lookup x
 | some .globalImplicit=>r8.lookup x
 | some .cell=>pJ F σ x
 | some .free=>pJ F σ x
 | _=>W7
def aJ{α:Type}(o:Option α)(f:α->Prop):Prop:=match o with
 | some x=>f x
 | none=>False
theorem bw(h:aJ o f):∃x,o=W6 x/\f x:=by
 cases o with
 | none=>exact h.elim
 | some x=>exact⟨x,rfl,h⟩
noncomputable def pK:List (ak×List ab):= [(155, ["data", "at", "end"]),(214, ["path", "word", "names", "partial"]),(541, ["data", "at"])]
noncomputable def l6(C:ak)(x:ab):Bool:=match pK.lookup C with
 | some l=>l.any (· ==x)
 | none=>W9
noncomputable def xl:List (ab×ak):= [("peek",103),("take",110),("starts",117),("skip",124),("take_while",131),("number",145),("is_done",95)]
noncomputable def xm:List (ab×ak):= [("fault",378),("peek",385),("skip",392),("need",399),("space",406),("run",420),("word_of",427),("quoted",476),("list_of",525)]
noncomputable def r9(C:ak)(x:ab):Option ak:=match aO C 155 with
 | true=>xl.lookup x
 | false=>match aO C 541 with
  | true=>xm.lookup x
  | false=>W7
def pL(op:Operator)(a b:AV)(σ:AS)(Q:Ta):Prop:=match a,b with
 | .num i, .num j=>match op with
  | .Add=>Q (.num (i+j)) σ
  | .Sub=>Q (.num (i - j)) σ
  | .Mult=>IntMulOk i j/\Q (.num (i*j)) σ
  | .Mod=>j≠0/\Q (.num (i.fmod j)) σ
  | .FloorDiv=>j≠0/\rf i j=W9/\Q (.num (i.fdiv j)) σ
  | .Pow=>0<=j/\j<=1000000/\i.natAbs<2 ^ 64/\Q (.num (i ^ j.toNat)) σ
  | _=>False
 | .st x, .st y=>match op with
  | .Add=>x.length+y.length<=1048576/\Q (.st (x++y)) σ
  | _=>False
 | .by_ x, .by_ y=>match op with
  | .Add=>x.length+y.length<=1048576/\Q (.by_ (x++y)) σ
  | _=>False
 | _,_=>False
def r_(op:UnaryOp)(a:AV)(σ:AS)(Q:Ta):Prop:=match op,a with
 | .USub, .num i=>Q (.num (-i)) σ
 | .Not, .bo b=>Q (.bo (!b)) σ
 | _,_=>False
noncomputable def pM(a:ak):Option (List (List Nat)):=match aO a 187 with
 | true=>W6 [("HEADER" :ab).cps.toList,("TEXT" :ab).cps.toList,("MIME" :ab).cps.toList,("HEADER.FIELDS" :ab).cps.toList,("HEADER.FIELDS.NOT" :ab).cps.toList]
 | false=>match aO a 188 with
  | true=>W6 [("HEADER.FIELDS" :ab).cps.toList,("HEADER.FIELDS.NOT" :ab).cps.toList]
  | false=>match aO a 589 with
   | true=>W6 [[97], [90], [32], [93], [123], [40], [92,34], [92,92], [37], [126]]
   | false=>W7
noncomputable def GB(o:AO):Option (List (List Nat)):=if h:o.ctorIdx=2 then AO.lst.elim o h (λ xs=>bZ iL xs) else if h:o.ctorIdx=3 then AO.lstS.elim o h (λ xs=>W6 xs) else if h:o.ctorIdx=5 then AO.tup.elim o h (λ xs=>bZ iL xs) else if h:o.ctorIdx=6 then AO.tupS.elim o h (λ xs=>W6 xs) else W7
noncomputable def kP(b:AV)(σ:AS):Option (List (List Nat)):=match b with
 | .ob k=>(σ.objs[k]?).bind GB
 | .gl (.ref a)=>pM a
 | _=>W7
noncomputable def GC(o:AO):Option (List Int):=if h:o.ctorIdx=5 then AO.tup.elim o h (λ xs=>bZ ir xs) else W7
noncomputable def kQ(b:AV)(σ:AS):Option (List Int):=match b with
 | .ob k=>(σ.objs[k]?).bind GC
 | _=>W7
noncomputable def fX(i:Int):List Int->Bool
 | []=>W9
 | j::r=>decide (j=i) || fX i r
noncomputable def cw(x:Ln):List (List Nat)->Bool
 | []=>W9
 | y::r=>aR y x || cw x r
noncomputable def eg(x:Nat):List Nat->Bool
 | []=>W9
 | y::r=>aO y x || eg x r
noncomputable def iS:List Nat->List Nat->Bool
 | [],_=>W8
 | _::_, []=>W9
 | a::r,b::t=>match dT a b with
  | true=>W8
  | false=>aO a b && iS r t
theorem xn:iS (a::r) (b::t)=match dT a b with
 | true=>W8
 | false=>aO a b && iS r t:=rfl
noncomputable def sb(a b:AV):Option Bool:=match a with
 | .num i=>match b with
  | .num j=>W6 (W_ (i=j))
  | _=>W7
 | .st x=>match b with
  | .st y=>W6 (aR x y)
  | _=>W7
 | _=>W7
noncomputable def g0:List (List Nat)->List (List Nat)->Bool
 | [], []=>W8
 | x::r,y::t=>aR x y && g0 r t
 | _,_=>W9
noncomputable def kR:List AV->List AV->Option Bool
 | [], []=>W6 W8
 | a::r,b::t=>(sb a b).bind λ x=>(kR r t).map λ y=>x && y
 | _,_=>W6 W9
noncomputable def GD(x y:AO):Option Bool:=match x with
 | .tupS x=>match y with
  | .tupS y=>W6 (g0 x y)
  | _=>W7
 | .tup x=>match y with
  | .tup y=>kR x y
  | _=>W7
 | .lst x=>match y with
  | .lst y=>match aO x.length y.length with
   | true=>kR x y
   | false=>W6 W9
  | _=>W7
 | _=>W7
def pN(a b:AV)(σ:AS)(Q:Bool->Prop):Prop:=match a with
 | .ob k=>match b with
  | .ob j=>aO k j=W9/\aJ (σ.objs[k]?) λ x=>aJ (σ.objs[j]?) λ y=>aJ (GD x y) Q
  | _=>False
 | _=>False
noncomputable def GF(o:AO):Bool:=aO o.ctorIdx 5 || aO o.ctorIdx 6
def xo(op:CmpOp)(a b:AV)(σ:AS)(Q:Bool->Prop):Prop:=match a,b with
 | .num i, .num j=>match rT op i j with
  | some c=>Q c
  | none=>False
 | .by_ x, .by_ y=>match op with
  | .Eq=>Q (aR x y)
  | .NotEq=>Q (!aR x y)
  | _=>False
 | .st x, .st y=>match op with
  | .Eq=>Q (aR x y)
  | .NotEq=>Q (!aR x y)
  | .LtE=>Q (iS x y)
  | _=>False
 | .ob k, .ob j=>match op with
  | .Eq=>pN (.ob k) (.ob j) σ Q
  | .NotEq=>aJ (σ.objs[k]?) λ o=>aG (GF o) (pN (.ob k) (.ob j) σ λ c=>Q (!c))
  | _=>False
 | _,_=>False
def fs(op:CmpOp)(a b:AV)(σ:AS)(Q:Bool->Prop):Prop:=match op with
 | .Is=>match b with
  | .non=>match a with
   | .non=>Q W8
   | .gl _=>False
   | _=>Q W9
  | _=>False
 | .IsNot=>match b with
  | .non=>match a with
   | .non=>Q W9
   | .gl _=>False
   | _=>Q W8
  | _=>False
 | .In=>match a with
  | .num i=>match b with
   | .by_ l=>0<=i/\i<256/\Q (eg i.toNat l)
   | b=>match kQ b σ with
    | some ns=>Q (fX i ns)
    | none=>False
  | .st x=>match kP b σ with
   | some ys=>Q (cw x ys)
   | none=>False
  | _=>False
 | .NotIn=>match a with
  | .num i=>match b with
   | .by_ l=>0<=i/\i<256/\Q (!eg i.toNat l)
   | b=>match kQ b σ with
    | some ns=>Q (!fX i ns)
    | none=>False
  | .st x=>match kP b σ with
   | some ys=>Q (!cw x ys)
   | none=>False
  | _=>False
 | op=>xo op a b σ Q
noncomputable def sd:AV->Bool
 | .gl _=>W9
 | _=>W8
noncomputable def g_(x:ab):Bool:=x== ("what" :ab) || x== ("at" :ab)
noncomputable def GH(name:ab):AO->Option Nat
 | .inst C d=>match l6 C name with
  | true=>W6 d
  | false=>W7
 | .exc d=>match g_ name with
  | true=>W6 d
  | false=>W7
 | .exd d=>match g_ name with
  | true=>W6 d
  | false=>W7
 | _=>W7
noncomputable def jS(o:AO):Option (List (ab×AV)):=if h:o.ctorIdx=1 then AO.dic.elim o h (λ l=>W6 l) else W7
noncomputable def xp(a:AV)(name:ab)(σ:AS):Option AV:=match a with
 | .ob k=>((σ.objs[k]?).bind (GH name)).bind λ d=>((σ.objs[d]?).bind jS).bind λ l=>(l.lookup name).bind λ v=>match sd v with
  | true=>W6 v
  | false=>W7
 | _=>W7
def pO(a:AV)(name:ab)(σ:AS)(Q:Ta):Prop:=match xp a name σ with
 | some v=>Q v σ
 | none=>False
def pP(a:AV)(name:ab)(v:AV)(σ:AS)(Q:AS->Prop):Prop:=match a with
 | .ob k=>match σ.objs[k]? with
  | some (.inst C d)=>match σ.objs[d]? with
   | some (.dic l)=>aG (l6 C name && dT l.length 900) (Q ⟨σ.loc,σ.objs.set d (.dic (dU name v l))⟩)
   | _=>False
  | some .ex0=>aG (g_ name) (Q ⟨σ.loc,((σ.objs++ [Xh []]).set k (AO.exn σ.objs.length)).set σ.objs.length (Xh [(name,v)])⟩)
  | some (.exn d)=>match σ.objs[d]? with
   | some (.dic l)=>aG (g_ name && dT l.length 800) (Q ⟨σ.loc,σ.objs.set d (.dic (dU name v l))⟩)
   | _=>False
  | _=>False
 | _=>False
noncomputable def l7(e:Expr):Bool:= (aO e.ctorIdx 26)
noncomputable def nF:AV->Option Nat
 | .ob k=>W6 k
 | _=>W7
noncomputable def GI:AV->Option (List Nat)
 | .by_ x=>W6 x
 | _=>W7
noncomputable def pQ(xs:List AV)(j:Nat):AV:=match bZ iL xs with
 | some l=> .st (l.getD j [])
 | none=>match bZ ir xs with
  | some l=> .num (l.getD j 0)
  | none=>match bZ GI xs with
   | some l=> .by_ (l.getD j [])
   | none=>xs.getD j .non
structure xq where
 isL:Bool
 len:Nat
 at_:Nat->AV
noncomputable def l8(o:AO):Option xq:=if h:o.ctorIdx=2 then AO.lst.elim o h (λ xs=>W6 ⟨W8,xs.length,pQ xs⟩) else if h:o.ctorIdx=3 then AO.lstS.elim o h (λ xs=>W6 ⟨W8,xs.length,λ j=> .st (xs.getD j [])⟩) else if h:o.ctorIdx=4 then AO.lstI.elim o h (λ xs=>W6 ⟨W8,xs.length,λ j=> .num (xs.getD j 0)⟩) else if h:o.ctorIdx=5 then AO.tup.elim o h (λ xs=>W6 ⟨W9,xs.length,pQ xs⟩) else if h:o.ctorIdx=6 then AO.tupS.elim o h (λ xs=>W6 ⟨W9,xs.length,λ j=> .st (xs.getD j [])⟩) else W7
noncomputable def bH(i:Int)(n:Nat):Nat:=match i with
 | .ofNat j=>j
 | .negSucc j=>n - (j+1)
def se(a i:AV)(σ:AS)(Q:Ta):Prop:=match i with
 | .num i=>match a with
  | .by_ b=>b.length<=1048576/\0<=i/\i<b.length/\Q (.num (b.getD i.toNat 0)) σ
  | .st b=>b.length<=1048576/\0<=i/\i<b.length/\Q (.st [b.getD i.toNat 0]) σ
  | .ob k=>aJ ((σ.objs[k]?).bind l8) λ S=> -(S.len:Int)<=i/\i<S.len/\S.len<=1048576/\Q (S.at_ (bH i S.len)) σ
  | .gl (.ref a)=>aJ (pM a) λ l=>0<=i/\i<l.length/\l.length<=1048576/\Q (.st (l.getD i.toNat [])) σ
  | _=>False
 | _=>False
noncomputable def sf:Option AV->Option (Option Int)
 | none=>W6 W7
 | some (.num i)=>W6 (W6 i)
 | _=>W7
def bB(lo hi:Option Int)(n:Nat):Prop:= (match lo with
 | none=>True
 | some i=>0<=i∨i<0/\hi=W7)/\(match hi with
 | none=>True
 | some j=>0<=j)/\n<=1048576
noncomputable def af{α:Type}(lo hi:Option Int)(xs:List α):List α:=match lo,hi with
 | none,W7=>xs
 | none,W6 j=>xs.take j.toNat
 | some i,W7=>xs.drop (bH i xs.length)
 | some i,W6 j=>(xs.take j.toNat).drop i.toNat
def sg(a:AV)(lo hi:Option AV)(σ:AS)(Q:Ta):Prop:=aJ (sf lo) λ lo=>aJ (sf hi) λ hi=>match a with
 | .by_ b=>bB lo hi b.length/\Q (.by_ (af lo hi b)) σ
 | .st b=>aJ lo λ i=>hi=W7/\bB lo hi b.length/\Q (.st (b.drop (bH i b.length))) σ
 | .ob k=>aJ (σ.objs[k]?) λ o=>match o with
  | .lst xs=>bB lo hi xs.length/\Q (.ob σ.objs.length) ⟨σ.loc,σ.objs++ [.lst (af lo hi xs)]⟩
  | .lstS xs=>bB lo hi xs.length/\Q (.ob σ.objs.length) ⟨σ.loc,σ.objs++ [.lstS (af lo hi xs)]⟩
  | .lstI xs=>bB lo hi xs.length/\Q (.ob σ.objs.length) ⟨σ.loc,σ.objs++ [.lstI (af lo hi xs)]⟩
  | .lstR xs _=>bB lo hi xs.length/\Q (.ob σ.objs.length) ⟨σ.loc,σ.objs++ [.lstI (af lo hi xs)]⟩
  | _=>False
 | _=>False
def sh(a i v:AV)(σ:AS)(Q:AS->Prop):Prop:=match a with
 | .ob k=>match i with
  | .num j=>aJ (σ.objs[k]?) λ o=>match o with
   | .lst xs=>0<=j/\j<xs.length/\xs.length<=1048576/\Q ⟨σ.loc,σ.objs.set k (.lst (xs.set j.toNat v))⟩
   | _=>False
  | _=>False
 | _=>False
def pR(id:String)(quiet:Bool)(vs:List AV)(σ:AS)(Q:Ta):Prop:=match vs with
 | [v]=>match v with
  | .by_ b=>aG (id== "len") (b.length<=1048576/\Q (.num b.length) σ)
  | .st x=>match id== "len" with
   | true=>x.length<=1048576/\Q (.num x.length) σ
   | false=>aG (id== "ord") (x.length=1/\Q (.num (x.getD 0 0)) σ)
  | .num i=>match id== "chr" with
   | true=>0<=i/\i<=1114111/\Q (.st [i.toNat]) σ
   | false=>aG (id== "abs") (Q (.num (if i<0 then -i else i)) σ)
  | .ob k=>aG (id== "len") (aJ ((σ.objs[k]?).bind l8) λ S=>aG S.isL (S.len<=1048576/\Q (.num S.len) σ))
  | _=>False
 | [.num i, .num j]=>aG quiet (match id== "min" with
  | true=>Q (.num (if j<i then j else i)) σ
  | false=>aG (id== "max") (Q (.num (if j>i then j else i)) σ))
 | _=>False
def pS(id:String)(calm:Bool)(vs:List AV)(σ:AS)(Q:Ta):Prop:=match vs with
 | []=>aG (id== "bytearray") (Q (.ob σ.objs.length) ⟨σ.loc,σ.objs++ [.bar []]⟩)
 | [v]=>match v with
  | .num i=>match id== "int" with
   | true=>Q (.num i) σ
   | false=>aG (id== "range") (0<=i/\i<=1048576/\Q (.ob σ.objs.length) ⟨σ.loc,σ.objs++ [.rng i.toNat]⟩)
  | .ob k=>aJ (σ.objs[k]?) λ o=>match o with
   | .lst xs=>aG (id== "tuple") (xs.length<=1048576/\Q (.ob σ.objs.length) ⟨σ.loc,σ.objs++ [.tup xs]⟩)
   | .lstS xs=>aG (id== "tuple") (xs.length<=1048576/\Q (.ob σ.objs.length) ⟨σ.loc,σ.objs++ [.tupS xs]⟩)
   | .tup _=>aG (id== "tuple") (Q v σ)
   | .tupS _=>aG (id== "tuple") (Q v σ)
   | .lstI xs=>aG (id== "bytes" && calm) (xs.length<=1048576/\(∀x∈xs,0<=x/\x<256)/\Q (.by_ (xs.map au)) σ)
   | .bar b=>aG (id== "bytes") (b.length<=1048576/\Q (.by_ b) σ)
   | _=>False
  | _=>False
 | _=>False
inductive iT where
 | fn (f:ak)
 | bi (id:String)
 | un (id:String)
noncomputable def jT(name:ab)(s:ab)(c:iT):Option iT:=match name==s with
 | true=>W6 c
 | false=>W7
noncomputable def GJ(name:ab)(σ:AS):AO->Option iT
 | .inst C d=>((σ.objs[d]?).bind jS).bind λ l=>match l.lookup name with
  | none=>(r9 C name).map .fn
  | some _=>W7
 | .lst _=>jT name "append" (.bi "list.append")
 | .lstS _=>jT name "append" (.bi "list.append")
 | .lstI _=>jT name "append" (.bi "list.append")
 | .bar _=>jT name "append" (.bi "bytearray.append")
 | _=>W7
noncomputable def si(a:AV)(name:ab)(σ:AS):Option iT:=match a with
 | .ob k=>(σ.objs[k]?).bind (GJ name σ)
 | .st _=>match name== ("join" :ab) with
  | true=>W6 (.bi "str.join")
  | false=>match name== ("split" :ab) with
   | true=>W6 (.bi "str.split")
   | false=>jT name "lower" (.bi "str.lower")
 | .gl g=>match g with
  | .type T=>match T== "Exception" && name== ("__init__" :ab) with
   | true=>W6 (.un "Exception.__init__")
   | false=>W7
  | _=>W7
 | _=>W7
noncomputable def GK(o:AO):Bool:=aO o.ctorIdx 12
def xr(id:String)(vs:List AV)(σ:AS)(Q:Ta):Prop:=match vs with
 | [.ob k,v]=>aG (id== "Exception.__init__") (aJ (σ.objs[k]?) λ o=>aG (GK o) (Q .non ⟨σ.loc,(σ.objs++ [Xj [v]]).set k .ex0⟩))
 | _=>False
noncomputable def kS(o:AO)(v:AV):Option AO:=match o with
 | .lst xs=>W6 (.lst (xs++ [v]))
 | .lstS xs=>match v with
  | .st x=>W6 (.lstS (xs++ [x]))
  | _=>W7
 | .lstI xs=>match v with
  | .num x=>W6 (.lstI (xs++ [x]))
  | _=>W7
 | _=>W7
noncomputable def bq:List (List Nat)->Nat
 | []=>0
 | x::r=>x.length+bq r
noncomputable def GL(o:AO):Option (List (List Nat)):=if h:o.ctorIdx=2 then AO.lst.elim o h (λ xs=>bZ iL xs) else if h:o.ctorIdx=3 then AO.lstS.elim o h (λ xs=>W6 xs) else W7
noncomputable def nG(x:Ln):Option (List (List Nat)):=match aR x ("FAST ALL FULL" :ab).cps.toList with
 | true=>W6 [("FAST" :ab).cps.toList,("ALL" :ab).cps.toList,("FULL" :ab).cps.toList]
 | false=>match aR x ("RFC822 RFC822.HEADER RFC822.TEXT" :ab).cps.toList with
  | true=>W6 [("RFC822" :ab).cps.toList,("RFC822.HEADER" :ab).cps.toList,("RFC822.TEXT" :ab).cps.toList]
  | false=>match aR x ("FLAGS UID INTERNALDATE RFC822.SIZE ENVELOPE BODY BODYSTRUCTURE MODSEQ" :ab).cps.toList with
   | true=>W6 [("FLAGS" :ab).cps.toList,("UID" :ab).cps.toList,("INTERNALDATE" :ab).cps.toList,("RFC822.SIZE" :ab).cps.toList,("ENVELOPE" :ab).cps.toList,("BODY" :ab).cps.toList,("BODYSTRUCTURE" :ab).cps.toList,("MODSEQ" :ab).cps.toList]
   | false=>W7
noncomputable def pT(o:AO):Option (List Nat):=if h:o.ctorIdx=7 then AO.bar.elim o h (λ b=>W6 b) else W7
def sj(id:String)(a:AV)(vs:List AV)(σ:AS)(Q:Ta):Prop:=match vs with
 | []=>match a with
  | .st x=>aG (id== "str.lower") (x.length<=1048576/\∀y,Q (.st y) σ)
  | _=>False
 | [v]=>match a with
  | .ob k=>match id== "list.append" with
   | true=>aJ (σ.objs[k]?) λ o=>aJ (l8 o) λ S=>S.len<=1048576/\aJ (kS o v) λ o'=>Q .non ⟨σ.loc,σ.objs.set k o'⟩
   | false=>aG (id== "bytearray.append") (aJ ((σ.objs[k]?).bind pT) λ b=>aJ (ir v) λ i=>0<=i/\i<256/\b.length<=1048576/\Q .non ⟨σ.loc,σ.objs.set k (.bar (b++ [i.toNat]))⟩)
  | .st x=>match v with
   | .ob k=>aG (id== "str.join" && aO x.length 0) (aJ ((σ.objs[k]?).bind GL) λ ys=>bq ys+ys.length<=1048576/\Q (.st ys.flatten) σ)
   | .st y=>aG (id== "str.split" && aR y [32]) (aJ (nG x) λ l=>Q (.ob σ.objs.length) ⟨σ.loc,σ.objs++ [.lstS l]⟩)
   | _=>False
  | _=>False
 | _=>False
noncomputable def xt(o:AO):Bool:=aO o.ctorIdx 10
noncomputable def quiet(F:Cf)(σ:AS):Bool:=match F.calm with
 | true=>W8
 | false=>match F.hid with
  | some k=>match σ.objs[k]? with
   | some o=>xt o
   | none=>W9
  | none=>W9
noncomputable def kT(o:AO):Option Nat:=if h:o.ctorIdx=17 then AO.lam.elim o h (λ i _ _=>W6 i) else W7
def sm(Γ:ak->Option aH)(F:Cf)(f:AV)(vs:List AV)(σ:AS)(Q:Ta)(R:Tn):Prop:=match f with
 | .gl (.ref a)=>aG (dT a 100000) (aJ (Γ a) λ c=>c.at F.pins F.calm vs σ Q R)
 | .gl (.builtin id)=>pR id (quiet F σ) vs σ Q
 | .gl (.type id)=>pS id F.calm vs σ Q
 | .ob k=>match vs with
  | []=>aJ ((σ.objs[k]?).bind kT) λ i=>aJ (Γ (100000+i)) λ c=>c.at F.pins F.calm [.ob k] σ Q R
  | _=>False
 | _=>False
def so(Γ:ak->Option aH)(F:Cf)(c:iT)(a:AV)(vs:List AV)(σ:AS)(Q:Ta)(R:Tn):Prop:=match c with
 | .fn f=>aG (dT f 100000) (aJ (Γ f) λ c=>c.at F.pins F.calm (a::vs) σ Q R)
 | .bi id=>sj id a vs σ Q
 | .un id=>xr id vs σ Q
noncomputable def xu(o:AO):Option Nat:=if h:o.ctorIdx=11 then AO.exn.elim o h (λ d=>W6 d) else W7
noncomputable def nH(F:Cf)(k:Nat):Bool:=match F.hid with
 | some h=> !(aO h k)
 | none=>W9
def pU(F:Cf)(a:AV)(σ:AS)(R:Tn):Prop:=match a with
 | .ob k=>aJ ((σ.objs[k]?).bind xu) λ d=>match F.calm with
  | true=>R k ⟨σ.loc,σ.objs.set k (Xm d)⟩
  | false=>aG (quiet F σ && nH F k) (R k ⟨σ.loc,σ.objs.set k (Xn d)⟩)
 | _=>False
noncomputable def sq(Γ:ak->Option aH)(a:AV)(σ:AS):Bool:=match a with
 | .gl (.ref f)=>dT f 100000 && (Γ f).isSome
 | .gl (.builtin _)=>W8
 | .gl (.type _)=>W8
 | .ob k=>((σ.objs[k]?).bind kT).isSome
 | _=>W9
noncomputable def sr(Γ:ak->Option aH)(c:iT):Bool:=match c with
 | .fn f=>dT f 100000 && (Γ f).isSome
 | .bi _=>W8
 | .un _=>W8
noncomputable def l9(k:LK)(vs:List AV):Option AO:=match k with
 | .vs=>W6 (.lst vs)
 | .ss=>(bZ iL vs).map .lstS
 | .is=>(bZ ir vs).map .lstI
structure It where
 n:Nat
 item:Nat->AV
noncomputable def pV(o:AO):Option It:=if h:o.ctorIdx=2 then AO.lst.elim o h (λ xs=>W6 ⟨xs.length,λ i=>xs.getD i .non⟩) else if h:o.ctorIdx=3 then AO.lstS.elim o h (λ xs=>W6 ⟨xs.length,λ i=> .st (xs.getD i [])⟩) else if h:o.ctorIdx=4 then AO.lstI.elim o h (λ xs=>W6 ⟨xs.length,λ i=> .num (xs.getD i 0)⟩) else if h:o.ctorIdx=8 then AO.rng.elim o h (λ n=>W6 ⟨n,λ i=> .num i⟩) else W7
noncomputable def su(a:AV)(σ:AS):Option It:=match a with
 | .by_ l=>W6 ⟨l.length,λ i=> .num (l.getD i 0)⟩
 | .st l=>W6 ⟨l.length,λ i=> .st [l.getD i 0]⟩
 | .ob k=>(σ.objs[k]?).bind pV
 | _=>W7
noncomputable def nI(o:AO):Bool:=aO o.ctorIdx 3 || (aO o.ctorIdx 4 || aO o.ctorIdx 8)
noncomputable def nJ(a:AV)(σ:AS):Option It:=match a with
 | .by_ l=>W6 ⟨l.length,λ i=> .num (l.getD i 0)⟩
 | .st l=>W6 ⟨l.length,λ i=> .st [l.getD i 0]⟩
 | .ob k=>(σ.objs[k]?).bind λ o=>match nI o with
  | true=>pV o
  | false=>W7
 | _=>W7
noncomputable def nK(o:AO):Bool:=aO o.ctorIdx 8
def l_(a:AV)(σ σ':AS)(P:Prop):Prop:=match a with
 | .ob k=>aJ (σ.objs[k]?) λ o=>match nK o with
  | true=>P
  | false=>aJ (σ'.objs[k]?) λ o'=>AO.sim o' o P
 | _=>P
noncomputable def mf(e:Expr):Bool:= !(aO e.ctorIdx 7)
noncomputable def gC(F:Cf)(σ:AS)(e:Expr):Option AV:=if h:e.ctorIdx=19 then Expr.Constant.elim e h λ c _ _=>pq c
 else if h:e.ctorIdx=23 then Expr.Name.elim e h λ x _=>match !(x== ("__debug__" :ab)) && !(x== ("__classdict__" :ab)) with
  | true=>jR F σ x
  | false=>W7
 else W7
noncomputable def kU(F:Cf)(σ:AS)(op:CmpOp)(b:AV)(e:Expr):Option Bool:=match b with
 | .num i=>match gC F σ e with
  | some (.num j)=>rT op i j
  | _=>W7
 | _=>W7
noncomputable def kV(e:Expr):Bool:= !(aO e.ctorIdx 16)
noncomputable def noStar(e:Expr):Bool:= !(aO e.ctorIdx 22)
noncomputable def key(p:Pos):Nat:=p.line*1000+p.col
noncomputable def nL(e:Expr):Option (Option Expr×Option Expr×Option Expr):=if h:e.ctorIdx=26 then Expr.Slice.elim e h λ lo hi st _=>W6 (lo,hi,st) else W7
noncomputable def pW(e:Expr):Option (List (Option Expr)×List Expr):=if h:e.ctorIdx=6 then Expr.Dict.elim e h λ ks vs _=>W6 (ks,vs) else W7
noncomputable def pX(e:Expr):Option (Expr×ab×Pos):=if h:e.ctorIdx=20 then Expr.Attribute.elim e h λ o n p=>W6 (o,n,p) else W7
noncomputable def g'(e:Expr):Option (ab×Pos):=if h:e.ctorIdx=23 then Expr.Name.elim e h λ x p=>W6 (x,p) else W7
noncomputable def GM:Const->Option Int
 | .int i=>W6 i
 | _=>W7
noncomputable def GN(e:Expr):Option Int:=if h:e.ctorIdx=19 then Expr.Constant.elim e h λ c _ _=>GM c else W7
noncomputable def kW(k:Option Expr):Option Int:=k.bind GN
def mh(i:Int):List Int->List AV->AV->AS->(AV->AS->Prop)->Prop
 | k::ks,v::vs,d,σ,Q=>cond (W_ (i=k)) (Q v σ) (mh i ks vs d σ Q)
 | _,_,d,σ,Q=>Q d σ
noncomputable def jt:AV->Bool
 | .num _=>W8
 | .st _=>W8
 | _=>W9
noncomputable def xv(sc0:et)(sc:et):et:={ sc with names:=sc.names.map λ(n,k)=>if (k== .free && sc0.kind== .function && sc0.names.lookup n==W6 .cell) then(n, .cell) else(n,k) }
noncomputable def gn{α:Type}(cells:List (ab×α)):List (ab×NameKind)->List (ab×α)->Option (List (ab×α))
 | [],acc=>W6 acc
 | (n,k)::r,acc=>match k== .free with
  | true=>(cells.lookup n).bind λ a=>gn cells r ((n,a)::acc)
  | false=>gn cells r acc
theorem xw:gn cells ((n,k)::r) acc=match k== .free with
 | true=>(cells.lookup n).bind λ a=>gn cells r ((n,a)::acc)
 | false=>gn cells r acc:=rfl
noncomputable def gF(sc:et)(x:ab):Bool:=match sc.names.lookup x with
 | some .local=>W8
 | _=>W9
noncomputable def nM(sc:et):Bool:= (sc.kind== .function) && sc.names.all λ y=>match y.2 with
 | .local=>gF sc y.1
 | .cell=>W9
 | _=>W8
noncomputable def ju(F:Cf)(sc:et)(cl:List (ab×Nat))(n:Nat):Cf:=⟨xv F.scope sc,n,cl,F.pins,F.calm,F.hid,F.qual,W7,F.an⟩
noncomputable def xx(o:AO):Option (List (Nat×Nat×Nat)):=if h:o.ctorIdx=18 then AO.tab.elim o h (λ l=>W6 l) else W7
noncomputable def mi(p:Pos):List (Nat×Nat×Nat)->Bool
 | []=>W8
 | x::r=> !(aO x.1 p.line && aO x.2.1 p.col) && mi p r
noncomputable def nN(σ:AS)(t:Nat)(l:List (Nat×Nat×Nat))(q:ab)(i:Nat)(p:Pos)(cs:List (ab×Nat)):AS:=
 ⟨σ.loc,σ.objs.set t (.tab (l++ [(p.line,p.col,σ.objs.length)]))++ [.cod q, .lam i σ.objs.length cs]⟩
noncomputable def pY(l:List Comprehension):Option (ab×Expr):=match l with
 | []=>W7
 | c::r=>match r with
  | _::_=>W7
  | []=>match c.ifs with
   | _::_=>W7
   | []=>match W_ (c.is_async=0) with
    | true=>(g' c.target).bind λ x=>W6 (x.1,c.iter)
    | false=>W7
noncomputable def nO:List Int->Bool
 | []=>W8
 | x::r=> !(r.any λ y=>decide (x=y)) && nO r
def sv(as:List AV)(f:Int->AV->Prop):Prop:=match as with
 | [.num i,d]=>f i d
 | _=>False
mutual
def bh(Γ:ak->Option aH)(F:Cf):Nat->Expr->AS->(AV->AS->Prop)->(Nat->AS->Prop)->Prop
 | 0,_,_,_,_=>False
 | n+1,e,σ,Q,R=>match e with
  | .Constant c _ _=>aJ (pq c) λ v=>Q v σ
  | .Name x _=>aJ (jR F σ x) λ v=>aG (!(x== ("__debug__" :ab)) && !(x== ("__classdict__" :ab))) (Q v σ)
  | .BinOp l op r _=>bh Γ F n l σ (λ a SN=>bh Γ F n r SN (λ b SZ=>pL op a b SZ Q) R) R
  | .UnaryOp op x _=>bh Γ F n x σ (λ a SN=>r_ op a SN Q) R
  | .BoolOp op vs _=>mj Γ F n op vs σ Q R
  | .IfExp t b o _=>gG Γ F n t σ (λ c SN=>cond c (bh Γ F n b SN Q R) (bh Γ F n o SN Q R)) R
  | .Compare l ops rs _=>aG (!lastMarks ops rs) (bh Γ F n l σ (λ a SN=>hO Γ F n a ops rs SN (λ b SZ=>Q (.bo b) SZ) R) R)
  | .Attribute o name _=>aG (kV o) (bh Γ F n o σ (λ a SN=>pO a name SN Q) R)
  | .Subscript v s _=>match nL s with
   | some (lo,hi,st)=>match st with
    | some _=>False
    | none=>bh Γ F n v σ (λ a SN=>nP Γ F n lo SN (λ l SZ=>nP Γ F n hi SZ (λ h σ3=>sg a l h σ3 Q) R) R) R
   | none=>bh Γ F n v σ (λ a SN=>bh Γ F n s SN (λ i SZ=>se a i SZ Q) R) R
  | .Tuple es _ _=>aG (es.all noStar) <| iU Γ F n es σ (λ vs SN=>aG (Nat.ble vs.length 1000) (Q (.ob SN.objs.length) ⟨SN.loc,SN.objs++ [.tup vs]⟩)) R
  | .List es pos=>aG (es.all noStar) <| iU Γ F n es σ (λ vs SN=>aJ (l9 (F.an.kind (key pos)) vs) λ o=>aG (Nat.ble vs.length 1000) (Q (.ob SN.objs.length) ⟨SN.loc,SN.objs++ [o]⟩)) R
  | .Call f args kws pos=>match kws with
   | _::_=>False
   | []=>match pX f with
    | some (o,name,apos)=>aG (kV o && ((apos.endLine==pos.line) && (dT args.length 29 && args.all noStar))) (match pW o with
     | some (ks,vs)=>aG (name== ("get" :ab) && (dT ks.length 10 && !ks.isEmpty)) (aJ (bZ kW ks) λ is=>aG (nO is && aO is.length vs.length) (aJ (bZ (gC F σ) vs) λ us=>aG (us.all jt) (aJ (bZ (gC F σ) args) λ as=>sv as λ i d=>
       aG (jt d) (mh i is us d σ Q))))
     | none=>bh Γ F n o σ (λ a SN=>aJ (si a name SN) λ c=>aG (sr Γ c) (iU Γ F n args SN (λ vs SZ=>so Γ F c a vs SZ Q R) R)) R)
    | none=>aJ (g' f) λ x=>aG (args.all noStar) <| bh Γ F n f σ (λ a SN=>iU Γ F n args SN (λ vs SZ=>aG (sq Γ a SZ) (sm Γ F a vs SZ Q R)) R) R
  | .ListComp elt gens sc pos=>aJ (pY gens) λ g=>aG (F.calm && (mf g.2 && (nM sc && gF sc g.1))) (aJ (gn F.cells sc.names []) λ cl=>
    bh Γ F n g.2 σ (λ a SN=>aJ (su a SN) λ I=>I.n<=1048576/\match F.an.comp (key pos) SN with
     | none=>pZ Γ (ju F sc cl SN.objs.length) n elt g.1 a I 0 [] SN ⟨[],SN.objs⟩ (λ vs SZ=>aJ (l9 (F.an.kind (key pos)) vs) λ o=>Q (.ob SZ.objs.length) ⟨SN.loc,SZ.objs++ [o]⟩)
     | some A=>(∃y,nx SN.objs (A.objs y) (AO.sim (.lst []) (A.acc y) (A.ok 0 y)))/\
       (∀i y,i<I.n->A.ok i y->aG (nI (A.acc y)) (l_ a SN ⟨[],A.objs y⟩ (bh Γ (ju F sc cl SN.objs.length) n elt ⟨[(g.1,I.item i)],A.objs y⟩ (λ v SZ=>
        ∃z,fgt SN.objs.length ⟨[],SZ.objs⟩ ⟨[],A.objs z⟩ (aJ (kS (A.acc y) v) λ o=>AO.sim o (A.acc z) (A.ok (i+1) z))) (λ _ _=>False))))/\
       ∀y,A.ok I.n y->l_ a SN ⟨[],A.objs y⟩ (Q (.ob (A.objs y).length) ⟨SN.loc,A.objs y++ [A.acc y]⟩)) R)
  | .Lambda ps b s p=>aJ (F.an.lam (key p)) λ i=>aJ F.code λ ct=>bG i=⟨F.qual++ "<lambda>",ps,b,s,p⟩/\aG (ps.defaults.isEmpty && ps.kw_defaults.isEmpty) (aJ ((σ.objs[ct.2]?).bind xx) λ l=>
    aG (mi p l) (aJ (gn F.cells s.names []) λ cs=>Q (.ob (σ.objs.length+1)) (nN σ ct.2 l (F.qual++ "<lambda>") i p cs)))
  | _=>False
def pZ(Γ:ak->Option aH)(F:Cf):Nat->Expr->ab->AV->It->Nat->List AV->AS->AS->(List AV->AS->Prop)->Prop
 | 0,_,_,_,_,_,_,_,_,_=>False
 | n+1,elt,x,a,I,i,acc,σ0,σ,Q=>l_ a σ0 σ (match dT i I.n with
  | true=>bh Γ F n elt ⟨[(x,I.item i)],σ.objs⟩ (λ v SZ=>pZ Γ F n elt x a I (i+1) (acc++ [v]) σ0 ⟨[],SZ.objs⟩ Q) (λ _ _=>False)
  | false=>Q acc σ)
def nP(Γ:ak->Option aH)(F:Cf):Nat->Option Expr->AS->(Option AV->AS->Prop)->(Nat->AS->Prop)->Prop
 | 0,_,_,_,_=>False
 | n+1,e,σ,Q,R=>match e with
  | none=>Q W7 σ
  | some e=>bh Γ F n e σ (λ a SN=>Q (W6 a) SN) R
def iU(Γ:ak->Option aH)(F:Cf):Nat->List Expr->AS->(List AV->AS->Prop)->(Nat->AS->Prop)->Prop
 | 0,_,_,_,_=>False
 | n+1,es,σ,Q,R=>match es with
  | []=>Q [] σ
  | e::r=>bh Γ F n e σ (λ a SN=>iU Γ F n r SN (λ as SZ=>Q (a::as) SZ) R) R
def mj(Γ:ak->Option aH)(F:Cf):Nat->BoolOp->List Expr->AS->(AV->AS->Prop)->(Nat->AS->Prop)->Prop
 | 0,_,_,_,_,_=>False
 | n+1,op,es,σ,Q,R=>match es with
  | []=>False
  | e::r=>match r with
   | []=>bh Γ F n e σ Q R
   | _::_=>bh Γ F n e σ (λ a SN=>match a with
    | .bo b=>match op with
     | .And=>cond b (mj Γ F n op r SN Q R) (Q (.bo W9) SN)
     | .Or=>cond b (Q (.bo W8) SN) (mj Γ F n op r SN Q R)
    | _=>False) R
def gG(Γ:ak->Option aH)(F:Cf):Nat->Expr->AS->(Bool->AS->Prop)->(Nat->AS->Prop)->Prop
 | 0,_,_,_,_=>False
 | n+1,e,σ,Q,R=>match e with
  | .UnaryOp op x _=>match op with
   | .Not=>gG Γ F n x σ (λ b SN=>Q (!b) SN) R
   | _=>False
  | .BoolOp op vs _=>ml Γ F n op vs σ Q R
  | .IfExp .. =>False
  | .Compare l ops rs _=>aG (!lastMarks ops rs) (bh Γ F n l σ (λ a SN=>hO Γ F n a ops rs SN Q R) R)
  | e=>bh Γ F n e σ (λ a SN=>match a with
   | .bo b=>Q b SN
   | _=>False) R
def ml(Γ:ak->Option aH)(F:Cf):Nat->BoolOp->List Expr->AS->(Bool->AS->Prop)->(Nat->AS->Prop)->Prop
 | 0,_,_,_,_,_=>False
 | n+1,op,es,σ,Q,R=>match es with
  | []=>match op with
   | .And=>Q W8 σ
   | .Or=>Q W9 σ
  | e::r=>gG Γ F n e σ (λ b SN=>match op with
    | .And=>cond b (ml Γ F n op r SN Q R) (Q W9 SN)
    | .Or=>cond b (Q W8 SN) (ml Γ F n op r SN Q R)) R
def hO(Γ:ak->Option aH)(F:Cf):Nat->AV->List CmpOp->List Expr->AS->(Bool->AS->Prop)->(Nat->AS->Prop)->Prop
 | 0,_,_,_,_,_,_=>False
 | n+1,a,ops,es,σ,Q,R=>match ops with
  | []=>False
  | op::ops=>match es with
   | []=>False
   | e::es=>match ops with
    | []=>match es with
     | []=>bh Γ F n e σ (λ b SN=>fs op a b SN (λ c=>Q c SN)) R
     | _::_=>False
    | Ub::TU=>match es with
     | []=>False
     | e'::UN=>bh Γ F n e σ (λ b SN=>match TU,UN with
      | [], []=>match kU F SN Ub b e' with
       | some c2=>fs op a b SN (λ c=>Q (c && c2) SN)
       | none=>fs op a b SN (λ c=>cond c (hO Γ F n b (Ub::TU) (e'::UN) SN Q R) (Q W9 SN))
      | _,_=>fs op a b SN (λ c=>cond c (hO Γ F n b (Ub::TU) (e'::UN) SN Q R) (Q W9 SN))) R
end
noncomputable def xy(o:AO):Bool:=aO o.ctorIdx 9 || aO o.ctorIdx 15
noncomputable def nQ(F:Cf)(x:ab)(v:AV)(σ:AS):Option AS:=match F.scope.names.lookup x with
 | some .local=>W6 ⟨dU x v σ.loc,σ.objs⟩
 | some .cell=>(F.cells.lookup x).bind λ k=>(σ.objs[k]?).bind λ o=>match xy o with
  | true=>W6 ⟨σ.loc,σ.objs.set k (.cel v)⟩
  | false=>W7
 | _=>W7
noncomputable def jv(F:Cf):List ab->List AV->AS->Option AS
 | [], [],σ=>W6 σ
 | x::xs,v::vs,σ=>(nQ F x v σ).bind λ σ=>jv F xs vs σ
 | _,_,_=>W7
noncomputable def jU(ts:List Expr):Option (List ab):=bZ (λ t=>(g' t).map (·.1)) ts
noncomputable def xA(e:Expr):Option (List Expr):=if h:e.ctorIdx=25 then Expr.Tuple.elim e h λ es _ _=>W6 es else W7
noncomputable def GO:Expr->Bool
 | .Starred .. =>W8
 | _=>W9
noncomputable def nR(sc:et)(ts:List Expr)(e:Expr):Option Bool:=match xA e with
 | none=>W6 W9
 | some vs=>
  if (!(ts.length==2 || ts.length==3) || vs.length !=ts.length)=W8 then W6 W9
  else if vs.any GO=W8 then W6 W9
  else if ((ts.filterMap λ
    | .Name id pos=>if sc.names.lookup id==W6 .local && pos.line== (ts.head?.map (·.pos.line)).getD 0 then W6 id else W7
    | _=>W7).length !=ts.length || (ts.filterMap λ
    | .Name id pos=>if sc.names.lookup id==W6 .local && pos.line== (ts.head?.map (·.pos.line)).getD 0 then W6 id else W7
    | _=>W7).eraseDups.length != (ts.filterMap λ
    | .Name id pos=>if sc.names.lookup id==W6 .local && pos.line== (ts.head?.map (·.pos.line)).getD 0 then W6 id else W7
    | _=>W7).length)=W8 then W6 W9
  else if vs.all (foldedForSure 8)=W8 then W6 W9
  else if vs.all (constantsAlone 8)=W8 then W7 else W6 W8
inductive GP where
 | name (x:ab)
 | attr (o:Expr) (x:ab)
 | sub (o i:Expr)
 | tup (ts:List Expr)
 | bad
noncomputable def GQ(e:Expr):GP:=if h:e.ctorIdx=23 then Expr.Name.elim e h λ x _=> .name x
 else if h:e.ctorIdx=20 then Expr.Attribute.elim e h λ o x _=> .attr o x
 else if h:e.ctorIdx=21 then Expr.Subscript.elim e h λ o i _=> .sub o i
 else if h:e.ctorIdx=25 then Expr.Tuple.elim e h λ ts _ _=> .tup ts
 else .bad
noncomputable def p6(o:AO):Option (List AV):=if h:o.ctorIdx=5 then AO.tup.elim o h (λ xs=>W6 xs) else W7
noncomputable def p7(e:Expr):Option (et):=if h:e.ctorIdx=8 then Expr.ListComp.elim e h λ _ _ s _=>W6 s else W7
noncomputable def ix(e:Expr):Bool:= !(aO e.ctorIdx 8 || (aO e.ctorIdx 9 || aO e.ctorIdx 10))
noncomputable def nS(s:cD):Pos:=if h:s.ctorIdx=5 then cD.Assign.elim s h λ _ _ p=>p
 else if h:s.ctorIdx=12 then cD.If.elim s h λ _ _ _ p=>p
 else if h:s.ctorIdx=3 then cD.Return.elim s h λ _ p=>p
 else if h:s.ctorIdx=24 then cD.Expr.elim s h λ _ p=>p
 else default
def sx(A:Option eS)(ini:Nat)(σ:AS)(f:AS->Prop):Prop:=match A with
 | none=>f σ
 | some A=>(∃x,fgt ini σ (A.st x) (A.ok 0 x))/\∀x,A.ok 0 x->f (A.st x)
noncomputable def gp(x:ab):List (ab×AV)->List (ab×AV)
 | []=> []
 | p::r=>match p.1==x with
  | true=>gp x r
  | false=>p::gp x r
theorem GR:gp x (p::r)=match p.1==x with
 | true=>gp x r
 | false=>p::gp x r:=rfl
noncomputable def GS:ExceptHandler->Option (ab×ab×List cD)
 | .ExceptHandler t n b _=>t.bind λ t=>n.bind λ x=>(g' t).bind λ c=>match b with
  | []=>W7
  | s::r=>W6 (c.1,x,s::r)
noncomputable def sy(l:List ExceptHandler):Option (ab×ab×List cD):=match l with
 | []=>W7
 | h::r=>match r with
  | []=>GS h
  | _::_=>W7
noncomputable def inH(F:Cf)(σ:AS)(k:Nat):Cf:=⟨F.scope,σ.objs.length,F.cells,F.pins,W9,W6 k,F.qual,F.code,F.an⟩
def xB(Γ:ak->Option aH)(F:Cf)(n:Nat)(t e:Expr)(line:Nat)(σ:AS)(Q:AS->Prop)(R:Tn):Prop:=match GQ t with
 | .name x=>match p7 e with
  | none=>aG (ix e) (bh Γ F n e σ (λ a SN=>aJ (nQ F x a SN) Q) R)
  | some sc=>aG (gF F.scope x && ((t.pos.line==e.pos.line) && !(sc.names.any λ y=>y.1==x && (y.2== .local || y.2== .cell)))) (bh Γ F n e σ (λ a SN=>Q ⟨dU x a SN.loc,SN.objs⟩) R)
 | .attr o x=>aG (ix e) (bh Γ F n e σ (λ a SN=>bh Γ F n o SN (λ b SZ=>pP b x a SZ Q) R) R)
 | .sub o i=>aG (ix e && !l7 i) (bh Γ F n e σ (λ a SN=>bh Γ F n o SN (λ b SZ=>bh Γ F n i SZ (λ j σ3=>sh b j a σ3 Q) R) R) R)
 | .tup ts=>aG (ix e && F.calm) (aJ (jU ts) λ ns=>aJ (nR F.scope ts e) λ sw=>bh Γ F n e σ (λ a SN=>aJ (nF a) λ k=>aJ ((SN.objs[k]?).bind p6) λ xs=>aG (aO xs.length ns.length && Nat.ble ns.length 1000)
   (match sw with
   | false=>aJ (jv F ns xs SN) Q
   | true=>aJ (jv F ns.reverse xs.reverse SN) Q)) R)
 | .bad=>False
mutual
def mm(Γ:ak->Option aH)(F:Cf):Nat->cD->AS->(AF->AS->Prop)->(Nat->AS->Prop)->Prop
 | 0,_,_,_,_=>False
 | n+1,st,σ,Q,R=>match st with
  | .Pass _=>Q .next σ
  | .Return v _=>match v with
   | none=>Q (.ret .non) σ
   | some e=>bh Γ F n e σ (λ a SN=>Q (.ret a) SN) R
  | .Expr e _=>aG (ix e) (bh Γ F n e σ (λ _ SN=>Q .next SN) R)
  | .Assign ts e p=>match ts with
   | []=>False
   | t::ts=>match ts with
    | []=>xB Γ F n t e p.line σ (λ SN=>Q .next SN) R
    | _::_=>False
  | .If t b o _=>gG Γ F n t σ (λ c SN=>cond c (aL Γ F n b SN Q R) (aL Γ F n o SN Q R)) R
  | .While t b o pos=>match o with
   | _::_=>False
   | []=>match F.an.ann (key pos) with
    | some A=>(∃x,fgt F.ini σ (A.st x) (A.ok 0 x))/\∀x,A.ok 0 x->gG Γ F n t (A.st x) (λ c SN=>cond c (aL Γ F n b SN (λ f SZ=>match f with
      | .next=>∃y,fgt F.ini SZ (A.st y) (A.ok 0 y/\A.μ y<A.μ x)
      | .cont=>∃y,fgt F.ini SZ (A.st y) (A.ok 0 y/\A.μ y<A.μ x)
      | .brk=>Q .next SZ
      | .ret v=>Q (.ret v) SZ) R) (Q .next SN)) R
    | none=>jV Γ F n (F.an.unr (key pos)) t b σ Q R
  | .For t it b o pos=>match o with
   | _::_=>False
   | []=>aJ (g' t) λ x=>match F.an.ann (key pos) with
     | some A=>aG (F.calm && (mf it && gF F.scope x.1)) (bh Γ F n it σ (λ a SN=>match nJ a SN with
      | some I=>I.n<=1048576/\(∃x,pB F.ini a SN (A.st x) (A.ok 0 x))/\(∀i y,i<I.n->A.ok i y->aL Γ F n b ⟨dU x.1 (I.item i) (A.st y).loc,(A.st y).objs⟩ (λ f SZ=>match f with
        | .next=>∃z,fgt F.ini SZ (A.st z) (A.ok (i+1) z)
        | .cont=>∃z,fgt F.ini SZ (A.st z) (A.ok (i+1) z)
        | .brk=>Q .next SZ
        | .ret v=>Q (.ret v) SZ) R)/\∀y,A.ok I.n y->Q .next (A.st y)
      | none=>False) R)
     | none=>False
  | .Raise e c _=>match e with
   | some e=>match c with
    | none=>bh Γ F n e σ (λ a SN=>pU F a SN R) R
    | some _=>False
   | none=>False
  | .Try b hs o fin _=>match o with
   | _::_=>False
   | []=>match fin with
    | _::_=>False
    | []=>aJ (sy hs) λ h=>aG (F.calm && (h.1== ("WireFault" :ab) && ((F.scope.names.lookup ("WireFault" :ab)==W6 .globalImplicit) && gF F.scope h.2.1)))
      (aL Γ F n b σ (λ f SN=>Q f SN) (λ k SN=>aL Γ (inH F SN k) n h.2.2 ⟨dU h.2.1 (.ob k) SN.loc,SN.objs⟩ (λ f SZ=>Q f ⟨gp h.2.1 SZ.loc,SZ.objs⟩) (λ k2 SZ=>R k2 ⟨gp h.2.1 SZ.loc,SZ.objs⟩)))
  | _=>False
def jV(Γ:ak->Option aH)(F:Cf):Nat->Nat->Expr->List cD->AS->(AF->AS->Prop)->(Nat->AS->Prop)->Prop
 | 0,_,_,_,_,_,_=>False
 | n+1,u,t,b,σ,Q,R=>gG Γ F n t σ (λ c SN=>cond c (match u with
   | 0=>False
   | u+1=>aL Γ F n b SN (λ f SZ=>match f with
    | .next=>jV Γ F n u t b SZ Q R
    | .cont=>jV Γ F n u t b SZ Q R
    | .brk=>Q .next SZ
    | .ret v=>Q (.ret v) SZ) R) (Q .next SN)) R
def aL(Γ:ak->Option aH)(F:Cf):Nat->List cD->AS->(AF->AS->Prop)->(Nat->AS->Prop)->Prop
 | 0,_,_,_,_=>False
 | n+1,ss,σ,Q,R=>match ss with
  | []=>Q .next σ
  | s::r=>sx (F.an.cut (key (nS s)) σ) F.ini σ λ σ=>mm Γ F n s σ (λ f SN=>match f with
   | .next=>aL Γ F n r SN Q R
   | f=>Q f SN) R
end
end
section
open PySem.Calls
noncomputable def p8(x:Option (Option az))(s:String):Bool:=match x with
 | some (W6 (.builtin t))=>t==s
 | _=>W9
noncomputable def nT(x:Option (Option az)):Bool:=match x with
 | some W7=>W8
 | _=>W9
noncomputable def xC(K:Frag)(C:ak)(x:ab):Bool:=hasDictIn K C && (match eX K (.ref C) x with
 | some a=>noGet K a
 | none=>W9) && p8 (eX K (.ref C) "__getattribute__") "object.__getattribute__" && p8 (eX K (.ref C) "__setattr__") "object.__setattr__" && plainOver K C && nT (takerIn K C x)
noncomputable def xD(g u:az):Bool:=match g with
 | .ref a=>(match u with
  | .ref b=>aO a b
  | _=>W9)
 | .builtin a=>(match u with
  | .builtin b=>a==b
  | _=>W9)
 | .type a=>(match u with
  | .type b=>a==b
  | _=>W9)
 | _=>W9
theorem GU(h:xD g u=W8):u=g:=by
 induction g <;> first | injection h | skip
 all_goals induction u <;> first | injection h | skip
 all_goals first | rw[dc h] | rw[beq_iff_eq.mp h]
noncomputable def sz(v:AV)(u:az):Bool:=match v with
 | .gl g=>xD g u
 | .num i=>(match u with
  | .int j _=>i==j
  | _=>W9)
 | .st x=>(match u with
  | .str y _=>aR x y.cps.toList
  | _=>W9)
 | .by_ x=>(match u with
  | .bytes y _=>(x.all λ a=>dT a 256) && aR x (y.toList.map UInt8.toNat)
  | _=>W9)
 | _=>W9
noncomputable def xE(K:Frag)(p:ab×AV):Bool:= !(p.1== ("__name__" :ab)) && (match nsIn K ie p.1 with
 | some (W6 u)=>sz p.2 u
 | some W7=>(match bootBuiltins p.1 with
  | some u=>sz p.2 u
  | none=>W9)
 | none=>W9)
theorem GV(P:fm):r8.all (xE (K0 P))=W8:=by kernel_rfl
theorem GX(P:fm):(pK.all λ p=>p.2.all (xC (K0 P) p.1))=W8:=by kernel_rfl
noncomputable def xF(x:Option az)(s:String):Bool:=match x with
 | some (.type t)=>t==s
 | _=>W9
theorem GY(h:xF x s=W8):x=W6 (.type s):=by
 induction x with
 | none=>contradiction
 | some v=>
  induction v <;> first | contradiction | skip
  exact congrArg (λ z=>W6 (az.type z)) (beq_iff_eq.mp h)
noncomputable def sA(K:Frag)(C:ak)(p:ab×ak):Bool:=p8 (eX K (.ref C) "__getattribute__") "object.__getattribute__" && nT (eX K (.ref C) "__getattr__") && (match eX K (.ref C) p.1 with
 | some (W6 (.ref f))=>aO f p.2
 | _=>W9) && xF (typeIn K (.ref p.2)) "function"
theorem GZ(P:fm):xl.all (sA (K0 P) 155)=W8:=by kernel_rfl
theorem G4(P:fm):xm.all (sA (K0 P) 541)=W8:=by kernel_rfl
theorem p9[BEq α][LawfulBEq α]:∀{l:List (α×β)},l.lookup y=W6 v->(y,v)∈l
 | [],h=>by simp at h
 | (a,b)::r,h=>by
  rw[gO]at h;refine cF (b:=y==a) (λ e=> ?bt) λ e=> ?bf
  case bt=>rw[e]at h;(injection h with zq;subst zq);rw[eq_of_beq e];exact .head _
  case bf=>rw[e]at h;exact .tail _ (p9 h)
noncomputable def xG(K:Frag):Bool:=nT (takerIn K 71 "what") && nT (takerIn K 71 "at")
theorem G5(P:fm):xG (K0 P)=W8:=by kernel_rfl
theorem sC(h:p8 x s=W8):x=W6 (W6 (.builtin s)):=by
 induction x with
 | none=>contradiction
 | some y=>induction y with
  | none=>contradiction
  | some v=>
   induction v <;> first | contradiction | skip
   exact congrArg (λ z=>W6 (W6 (az.builtin z))) (beq_iff_eq.mp h)
theorem p_(h:nT x=W8):x=W6 W7:=by
 induction x with
 | none=>contradiction
 | some y=>induction y with
  | none=>rfl
  | some v=>contradiction
theorem xH(h:g_ x=W8):takerIn (K0 P) 71 x=W6 W7:=by
 have hh:=G5 P;unfold xG at hh;refine aI (bE.mp hh) λ h1 h2=> ?_;unfold g_ at h;rcases Bool.or_eq_true_iff.mp h with q | q
 ·rw[eq_of_beq q];exact p_ h1
 ·rw[eq_of_beq q];exact p_ h2
noncomputable def qa(K:Frag)(x:ab):Bool:=match eX K (.ref 71) x with
 | some a=>noGet K a
 | none=>W9
theorem G6(P:fm):(qa (K0 P) "what" && qa (K0 P) "at")=W8:=by kernel_rfl
theorem G7(h:g_ x=W8):∃a,eX (K0 P) (.ref 71) x=W6 a/\noGet (K0 P) a=W8:=by
 have core:qa (K0 P) x=W8:=by
  refine aI (bE.mp (G6 P)) λ h1 h2=> ?_;unfold g_ at h;rcases Bool.or_eq_true_iff.mp h with q | q
  ·rw[eq_of_beq q];exact h1
  ·rw[eq_of_beq q];exact h2
 unfold qa at core;cases q2:eX (K0 P) (.ref 71) x with
 | none=>rw[q2]at core;contradiction
 | some a=>rw[q2]at core;exact⟨a,rfl,core⟩
structure G8 (K:Frag) (C:ak) (x:ab):Prop where
 hd:hasDictIn K C=W8
 fi:∃a,eX K (.ref C) x=W6 a/\noGet K a=W8
 ga:eX K (.ref C) "__getattribute__" =W6 (W6 (.builtin "object.__getattribute__"))
 sa:eX K (.ref C) "__setattr__" =W6 (W6 (.builtin "object.__setattr__"))
 po:plainOver K C=W8
 tk:takerIn K C x=W6 W7
theorem xI(h:l6 C x=W8):G8 (K0 P) C x:=by
 unfold l6 at h;refine cL (o:=pK.lookup C) (λ q=> ?on) λ l q=> ?os
 case on=>rw[q]at h;contradiction
 case os=>
  rw[q]at h;refine aj (m8.mp h) λ y hy e=> ?_;obtain rfl:=iw e;have hm:(C,l)∈pK:=p9 q;have:=i8.mp (i8.mp (GX P) _ hm) y hy;unfold xC at this;simp only[Bool.and_eq_true]at this;revert this;refine bF λ Tj h6=> ?_;obtain⟨⟨⟨⟨h1,h2⟩,h3⟩,h4⟩,h5⟩:=Tj;refine⟨h1, ?_,sC h3,sC h4,h5,p_ h6⟩;cases q2:eX (K0 P) (.ref C) y with
  | none=>rw[q2]at h2;contradiction
  | some a=>rw[q2]at h2;exact⟨a,rfl,h2⟩
structure xJ (K:Frag) (C:ak) (x:ab) (f:ak):Prop where
 ga:eX K (.ref C) "__getattribute__" =W6 (W6 (.builtin "object.__getattribute__"))
 gt:eX K (.ref C) "__getattr__" =W6 W7
 fi:eX K (.ref C) x=W6 (W6 (.ref f))
 ty:typeIn K (.ref f)=W6 (.type "function")
theorem G9(h:r9 C x=W6 f):xJ (K0 P) C x f:=by
 have core:∀{l:List (ab×ak)} {D:ak},l.all (sA (K0 P) D)=W8->l.lookup x=W6 f->xJ (K0 P) D x f:=λ {l D} ha hl=>by
  have:=i8.mp ha _ (p9 hl);refine aI (bE.mp this) λ Tj h4=> ?_;refine aI (bE.mp Tj) λ SY h3=> ?_;refine aI (bE.mp SY) λ h1 h2=> ?_;refine⟨sC h1,p_ h2, ?_, ?_⟩
  ·cases q:eX (K0 P) (.ref D) x with
   | none=>rw[q]at h3;contradiction
   | some y=>induction y with
    | none=>rw[q]at h3;contradiction
    | some v=>
     rw[q]at h3;induction v <;> first | contradiction | skip
     rw[dc h3]
  ·exact GY h4
 unfold r9 at h;refine cF (b:=aO C 155) (λ q=> ?bt) λ q=> ?bf
 case bt=>rw[q]at h;rw[dc q];exact core (GZ P) h
 case bf=>
  rw[q]at h;refine cF (b:=aO C 541) (λ q2=> ?bt) λ q2=> ?bf
  case bt=>rw[q2]at h;rw[dc q2];exact core (G4 P) h
  case bf=>rw[q2]at h;contradiction
theorem xK(h:sz v u=W8)(ads:Ld):aU ads v u:=by
 induction v <;> first | injection h | skip
 ·induction u <;> first | injection h | skip
  rw[beq_iff_eq.mp h];exact⟨_,rfl⟩
 ·induction u <;> first | injection h | skip
  rename_i x y t;rw[fW h];exact⟨t,by simp⟩
 ·induction u <;> first | injection h | skip
  rename_i x y t;refine aI (bE.mp h) λ h1 h2=> ?_;refine⟨λ a ha=>by simpa[gh] using i8.mp h1 a ha,t, ?_⟩
  rw[fW h2];unfold cx;rw[List.map_map]
  congr 1
  have:(y.toList.map (jJ ∘ UInt8.toNat))=y.toList:=by
   conv=>rhs;rw[←List.map_id y.toList]
   apply List.map_congr_left;intro a _;simp
  rw[this]
 ·exact GU h
structure FC (w:aQ) (F:Cf) (C:Cx):Prop where
 scope:F.scope=C.scope
 hid:∀k,F.hid=W6 k->∃a,C.ini[k]? =W6 a/\C.hdl=W6 (.ref a)
 qual:F.qual=C.qual
 code:∀p,F.code=W6 p->C.cd= .ref p.1/\∃P,C.ini[p.2]? =W6 P/\∀h,(K0 w.params).In h->CodeHd h p.1 P
 ini:F.ini=C.ini.length
 cells:∀x k,F.cells.lookup x=W6 k->∃a,C.cells.lookup x=W6 a/\C.ini[k]? =W6 a
 pins:∀(i:Nat) (a:ak),F.pins[i]? =W6 a->C.ini[i]? =W6 a
 calm:F.calm=W8->C.hdl=W7
section
variable{w:aQ}{mg mb:Tm}{C:Cx}{ads:Ld}{σ:AS}{bud:Nat}{F:Cf}{Q:Ta}{R:Tn}
theorem sD{A:dj}{E:Tv}{Q:Tv}(ok:bc w mg mb bud C)(hg:r8.lookup x=W6 v)(Fh:Fr C.g C.L s.heap m)
  (hk:env.scope.kind= .function) (hx:env.kindOf x=W6 .globalImplicit) (e1:env.globals=ie) (e2:env.builtins=builtinsNs) (hd:(x== ("__debug__" :ab))=W9) (h:∀u,aU ads v u->Q u s):
  aC (ag pw w) A (aZ (.Name x pos) env) Q E s:=by
 have hb:=i8.mp (GV w.params) _ (p9 hg);unfold xE at hb;refine aI (bE.mp hb) λ h1 h2=> ?_;have hT:=ok.top;have G1:s.heap.Ns env.globals mg:=by
  rw[e1];exact hT.g.at' λ o e=>Fh.keep _ _ e
 have G2:s.heap.Ns env.builtins mb:=by
  rw[e2];exact hT.b.at' λ o e=>Fh.keep _ _ e
 refine Name_function_global hk hx ?_ hd;refine cL (o:=nsIn (K0 w.params) ie x) (λ q=> ?on) λ r q=> ?os
 case on=>rw[q]at h2;contradiction
 case os=>
  rw[q]at h2;induction r with
  | some u=>exact loadGlobal_global G1 (mg_of ok.K hT.g q) (h u (xK h2 _))
  | none=>
   refine cL (o:=bootBuiltins x) (λ q2=> ?on) λ u q2=> ?os
   case on=>simp only[q2]at h2;contradiction
   case os=>
    simp only[q2]at h2;refine loadGlobal_builtin G1 (mg_none_of ok.K hT.g q) G2 ((hT.builtins x λ e=> ?_).trans q2) (h u (xK h2 _));subst e;simp at h1
end
end
section
open PySem.Calls
section
variable{w:aQ}{A:dj}{E:Tv}{s:aw}
theorem G_{prog:Program}{id:String}{args:Args}{b:Builtin}{R:Result->aw->Prop}(hd:ip (.builtin id args))(hb:entryFor table id=W6 b)
  (h:ai (ag prog w) (A.under (.builtin id args)) (b args)
   (λ fin s'=>match fin with | .done f=>R (.ok f) s' | .again c'=>c'.quiet=W8/\cf (ag prog w) A c' R s') (λ e s'=>R (.error e) s') s):
  cf (ag prog w) A (.builtin id args) R s:=by
 refine gz hd ?_;show ai _ _ (match entryFor table id with | some b=>b args | none=>unsupported ((withoutEnding? id "#data").getD id)) _ _ s
 rw[hb];exact h
theorem G'{T newId initId:String}{Bi:Builtin}{args:Lv}{Q Q₁:Tv}(ft:TypeCalled T newId initId)
  (hct:checkTypeCall T ⟨args, []⟩=pure ()) (Wh:entryFor table initId=W6 Bi) (Vu:∀a,ip (.builtin initId a))
  (VC:codeAny (ag pw w) A.in1 (.call (.builtin newId) ⟨.type T::args, []⟩) (wants Q₁ E) s)
  (WM:∀obj s₁,Q₁ obj s₁->s₁.TypeIs obj T/\argsOk initId ⟨obj::args, []⟩/\
   ai (ag pw w) A.in1.in1 (Bi ⟨obj::args, []⟩)
    (λ fin s'=>match fin with | .done f=>wants (λ r SP=>r= .none/\Q obj SP) E (.ok f) s' | .again c'=>c'.quiet=W8/\cf (ag pw w) A.in1 c' (wants (λ r SP=>r= .none/\Q obj SP) E) s')
    (λ e s'=>wants (λ r SP=>r= .none/\Q obj SP) E (.error e) s') s₁):
  ai (ag pw w) A (call (.type T) args) Q E s:=by
 refine lP ft.mro λ c tl hmro=> ?_;have hmade:=ft.made;have hsub:=ft.sub;refine kF (gz (λ _ _=>rfl) ?_);show ai _ _ (callAny (.type T) _) _ _ _;refine aT (a:=Fin.again (.builtin "type.__call__" ⟨.type T::args, []⟩)) ⟨Code.quiet_builtin _ (by decide+kernel),G_ (rF _) F.entry_type_call ?_⟩
 rw[dj.under_plain (weight_type_call_type T args []) rfl];have h1:=ft.notType;have h2:=ft.canCreate;unfold Builtin.«type.__call__»;dsimp only;refine eH (by rw[h1];decide) ?_
 refine eH (by rw[h2];decide) ?_
 refine bX (eO hct ?_);refine bX (eO hmro ?_);refine eH (show ¬ (W9=W8) from Bool.false_ne_true) ?_
 refine bX (eO hmade ?_);dsimp only;refine aA (aT ?_);refine bX (f9 (wpAny_call (codeAny_mono VC λ r s₁ hr=> ?_)));induction r with
 | error e=>exact hr
 | ok fl=>
  induction fl with
  | ret obj=>
   refine cE (WM _ _ hr) λ hT TG hsi=> ?_;refine bX (wpAny_isInstance hT hsub ?_);refine eH (by decide) ?_
   refine aA (cV ?_);unfold callSpecial?;refine bX (nf hT ft.init.lookup ?_);dsimp only;refine cV (bX (eO (ft.init.bind obj) ?_));dsimp only;refine aA (kF (iI (pf (Vu _) (plainId_quiet ft.init.plain _) Wh (by rw[dj.under_plainId ft.init.plain _];exact ft.init.check _ _ _ _ _ _ _ _ hT TG hsi)) λ S5 SP hr₂=> ?_))
   rcases S5 with e | (v | _ | _ | _) <;> first | exact hr₂ | exact hr₂.elim | skip
   revert hr₂;refine bF λ Tj hq=> ?_;subst Tj;exact aT (eH (by decide) (aT hq))
  | _=>exact hr.elim
theorem Ha:(("bytearray.__release_buffer__" :String).endsWith ("." ++ "__release_buffer__"))=W8:=by decide+kernel
theorem Hb:(("bytearray.__release_buffer__" :String).dropRight ("__release_buffer__".length+1))= "bytearray" :=by decide+kernel
theorem xM(ho:s.heap.get? a=W6 (eY b))(q:Q W9 s):aC (ag pw w) A (Builtin.Bytes.ownRelease (.ref a)) Q E s:=by
 have hT:s.TypeIs (.ref a) "bytearray" :=⟨_,ho,rfl⟩;unfold Builtin.Bytes.ownRelease Builtin.Bytes.slotIsOwn;refine aB (aB (nf hT FA ?_));dsimp only;rw[Ha];refine wpAny_ite_false (by decide) ?_
 rw[Hb];exact wpAny_isInstance hT rO (bW q)
theorem xN:Manifest.owners.lookup (String.ofList ['y','a','r','r','a','e','t','y','b'].reverse)=W6 Manifest.sig_bytearray:=by kernel_rfl
theorem Hc(a:az):argsOk "bytearray.__init__" ⟨[a], []⟩:=by
 unfold argsOk;rw[signature?_of (id:= "bytearray.__init__") (n:= ['_','_','t','i','n','i','_','_']) (o:= ['y','a','r','r','a','e','t','y','b']) (by kernel_rfl) xN];kernel_rfl
theorem Hd(a b:az):argsOk "bytearray.append" ⟨[a,b], []⟩:=by
 unfold argsOk;rw[signature?_of (id:= "bytearray.append") (n:= ['d','n','e','p','p','a']) (o:= ['y','a','r','r','a','e','t','y','b']) (by kernel_rfl) xN];kernel_rfl
theorem He(h:Q (.ref s.heap.objs.size) { s with heap:= (s.heap.push (eY #[])).update s.heap.objs.size (m9 λ _=> #[]) }):ai (ag pw w) A (call (.type "bytearray") []) Q E s:=by
 refine G' (Q₁:=λ obj s₁=>obj= .ref s.heap.objs.size/\s₁={ s with heap:=s.heap.push (eY #[]) }) Fv Fw Fz Eb (FF ⟨rfl,rfl⟩) λ obj s₁ h₁=> ?_
 revert h₁;refine bF λ Tj SY=> ?_;subst Tj;subst SY;have ho:(s.heap.push (eY #[])).get? s.heap.objs.size=W6 (eY #[]):=fx _ rfl;refine⟨⟨_,ho,rfl⟩,Hc _, ?_⟩;unfold Builtin.«bytearray.__init__»;dsimp only;refine bX (xM ho ?_);refine eH (by decide) ?_
 refine bX (eO FD ?_);dsimp only;refine bX (eO (a:= ()) rfl ?_);refine bX (eO (a:= ()) rfl ?_);refine aA ?_;refine aA (w3 ?_);show ai _ _ (uQ _ >>=λ n=>pure (W_ (n>0))) _ _ _;refine bX (w4 ho (aT ?_));refine eH (by decide) ?_
 refine bX (w5 ho (Nat.zero_le _) ?_);refine aA (eH (by decide) (eH (by decide) (aT ?_)))
 exact aT ⟨rfl,h⟩
theorem qb:Slot "bytearray" "append" "bytearray.append" :=
 .of (owner:= "bytearray") (n:= "append") (by rw[kz,km];kernel_rfl) (by decide+kernel) (by decide+kernel) (by decide+kernel)
  (by first | exact .inl (by decide+kernel) | exact .inr (by decide+kernel)) (by rw[isSubtype_type];kernel_rfl)
theorem Hf:entryFor table "bytearray.append" =W6 Builtin.«bytearray.append» :=entryFor_of_tree (by kernel_rfl)
theorem Hg:typeOf (.builtin "bytearray.append")=pure (.type "method_descriptor"):=by kernel_rfl
theorem Hh:PlainAttrs "bytearray" :=
 ⟨⟨"bytearray.__getattribute__",by rw[kz,km];kernel_rfl,by decide+kernel⟩,by rw[kz,km];kernel_rfl⟩
theorem Hi(ho:s.heap.get? a=W6 (eY b))(h0:0<=i)(h1:i<256)(hsz:b.size+1<=sizeLine)
  (q:Q .none { s with heap:=s.heap.update a (m9 (·.push i.toNat.toUInt8)) }):ai (ag pw w) A (call (.builtin "bytearray.append") [.ref a, .int i t]) Q E s:=by
 have hT:s.TypeIs (.ref a) "bytearray" :=⟨_,ho,rfl⟩;refine kF (pf (Ec _) (plainId_quiet qb.plain _) Hf ?_);rw[dj.under_plainId qb.plain _];refine qb.check _ _ _ _ _ _ _ _ hT (Hd _ _) ?_;unfold Builtin.«bytearray.append»;refine bX (eO (a:= (di a,az.int i t)) rfl ?_);dsimp only;refine aA ?_;unfold Builtin.Bytes.byteValue;refine bX (eO (rfl:asIndex (.int i t)=pure i) ?_);refine eH (by simp only[Bool.or_eq_true,decide_eq_true_eq];lia) (aT ?_)
 refine aA ?_;unfold Builtin.Bytes.checkResize;refine aA ?_;refine aA (w3 ?_);show ai _ _ (uQ _ >>=λ n=>pure (W_ (n>0))) _ _ _;refine bX (w4 ho (aT ?_));refine eH (by decide) (aT ?_)
 refine bX (w5 ho (by rw[Array.size_push];exact hsz) ?_)
 exact aT q
end
end
section
open PySem.Calls
theorem Hj:typeLookup (.type "bytearray") "__bytes__" =pure W7:=by rw[kz,km];kernel_rfl
theorem Hk:typeLookup (.type "bytearray") "__index__" =pure W7:=by rw[kz,km];kernel_rfl
theorem sE:typeLookup (.type "bytearray") "__buffer__" =pure (W6 (.builtin "bytearray.__buffer__")):=by rw[kz,km];kernel_rfl
theorem Hl:(("bytearray.__buffer__" :String).endsWith ("." ++ "__buffer__"))=W8:=by decide+kernel
theorem Hm:(("bytearray.__buffer__" :String).dropRight ("__buffer__".length+1))= "bytearray" :=by decide+kernel
section
variable{w:aQ}{A:dj}{E:Tv}{s:aw}
theorem Hn(ho:s.heap.get? a=W6 (eY b))(q:Q b s):aC (ag pw w) A (Builtin.Bytes.payload (.ref a)) Q E s:=by
 unfold Builtin.Bytes.payload Builtin.Bytes.payload?;refine aB (aB (wpAny_load ho ?_));exact bW (bW q)
theorem Ho{b:Array UInt8}{id:String}{Q:Option (Array UInt8)->aw->Prop}(ho:s.heap.get? a=W6 (eY b))(q:Q (W6 b) s):aC (ag pw w) A (uS id (.ref a) W8) Q E s:=by
 have hT:s.TypeIs (.ref a) "bytearray" :=⟨_,ho,rfl⟩;unfold uS;refine aB (nf hT sE ?_);dsimp only;refine aB ?_;unfold Builtin.Bytes.slotIsOwn;refine aB (nf hT sE ?_);dsimp only;rw[Hl];refine wpAny_ite_false (by decide) ?_
 rw[Hm];refine wpAny_isInstance hT rO ?_;refine wpAny_ite_false (by decide) ?_
 refine aB (nf hT sE ?_);refine aB (xM ho ?_);refine wpAny_ite_false (by decide) ?_
 exact aB (Hn ho (bW q))
theorem Hp(ho:s.heap.get? l=W6 (eY b))(hz:b.size<=sizeLine)
  (hQ:∀t k,Q (.bytes b t) { s with toks:=k }):
  codeAny (ag pw w) A (.call (.builtin "bytes.__new__") ⟨[.type "bytes", .ref l], []⟩) (wants Q E) s:=by
 refine codeAny_of_tree ?_;show aC _ A.in1 (do ko "bytes.__new__" ⟨[.type "bytes", .ref l], []⟩;again (.builtin "bytes.__new__" ⟨[.type "bytes", .ref l], []⟩)) _ _ s
 refine aB (eO (F.bm_newCall _) (bW ⟨plainId_quiet F.bm_plain _,codeAny_builtin F.bm_entry ?_⟩));rw[dj.under_plainId F.bm_plain _];have hT:s.TypeIs (.ref l) "bytearray" :=⟨_,ho,rfl⟩;unfold Builtin.«bytes.__new__»;refine aB (eO (a:=W8) rfl ?_);refine bm_if_false rfl ?_;refine aB (eO F.bm_sub ?_);refine bm_if_false rfl ?_;refine aB (eO (F.bm_bind _) ?_);refine aB (eO (a:= ()) rfl ?_);refine aB (eO (a:= ()) rfl ?_);refine bm_if_false rfl ?_;refine aB (nf hT Hj ?_);refine aB (aB ?_);show aC _ _ (load l >>=_) _ _ _;refine aB (wpAny_load ho ?_);refine bW (bW ?_);refine bm_if_false rfl ?_;refine aB (nf hT Hk ?_);refine bm_if_true rfl ?_
 first
  | show aC _ _ (uS "bytes.__new__" (.ref l) W8 >>=_) _ _ _
  | (refine aB ?_;show aC _ _ (uS "bytes.__new__" (.ref l) W8 >>=_) _ _ _)
 refine aB (Ho ho ?_);dsimp only;refine aB (wpAny_rule ?_);refine aB (wpAny_mkBytes ?_ hz);show aC _ _ (if (az.type "bytes" ==az.type "bytes")=W8 then _ else _) _ _ _
 refine bm_if_true (by decide) ?_
 first
  | exact bW (hQ _ _)
  | exact bW (bW (hQ _ _))
  | exact aB (bW (bW (hQ _ _)))
theorem Hq(ho:s.heap.get? l=W6 (eY b))(hz:b.size<=sizeLine)
  (hQ:∀t k,Q (.bytes b t) { s with toks:=k }):aC (ag pw w) A (call (.type "bytes") [.ref l]) Q E s:=by
 refine callType_codes (Q₁:=λ obj s₁=>s₁.TypeIs obj "bytes" /\Q obj s₁) F.bm_called (F.bm_typeCall _) F.entry_object_init
  (Hp ho hz λ t k=>⟨PySem.W.typeIs_bytes _ _ _,hQ t k⟩) λ obj s₁ h₁=> ?_
 exact⟨h₁.1,F.args_object_init_2 obj _,object_init_meets F.bm_called.init.lookup F.bm_called.made (by decide) pw w A.in1 _ s₁ ⟨h₁.1,rfl,h₁.2⟩⟩
theorem Hr(e4:s.heap.get? ax=W6 (eY b))(q:QQ (.builtin "bytearray.append", [.ref ax]) s):aC (ag pw w) A (getMethod (.ref ax) "append" pl) QQ E s:=
 getMethod_builtin ⟨_,e4,rfl⟩ Hh qb Hg (λ a e=>by(injection e with zq;subst zq);exact⟨_,e4,rfl⟩) q
end
end
section
open PySem.Calls
section
variable{w:aQ}{mg mb:Tm}{C:Cx}{ads:Ld}{σ:AS}{bud:Nat}{F:Cf}{Q:Ta}{R:Tn}
theorem fG(h:aG (a && b) P):a=W8/\b=W8/\P:=
 let ⟨h1,h2⟩:=bA h
 let ⟨h3,h4⟩:=bE.mp h1
 ⟨h3,h4,h2⟩
theorem mn(h:(!a)=W8):a=W9:=by cases a <;> first | rfl | contradiction
theorem qc{x:ab}{v:AV}{s:aw}{os:Lo}{fr:Tf}{m:Tm}(fc:FC w F C)(X:aE C ads σ s os fr m)(h:pJ F σ x=W6 v):
  ∃a u,C.env.cells.lookup x=W6 a/\s.heap.IsCell a (W6 u)/\aU ads v u:=by
 unfold pJ at h;refine cL (o:=F.cells.lookup x) (λ h1=> ?on) λ k h1=> ?os
 case on=>rw[h1]at h;contradiction
 case os=>
  rw[h1]at h;dsimp only at h;refine cL (o:=σ.objs[k]?) (λ h2=> ?on) λ ao h2=> ?os
  case on=>rw[h2]at h;contradiction
  case os=>
   rw[h2]at h;cases ao <;> first | cases h | skip
   refine aj (fc.cells _ _ h1) λ a e1 e2=> ?_;refine il (X.obj h2) λ a' o e3 _ e4 e5 _=> ?_;rw[dB X.ini e2]at e3;obtain rfl:=bQ e3;revert e4;refine b7 λ u e6 e7=> ?_;exact⟨a,u,e1,⟨_,e5,e6⟩,e7⟩
theorem Hs(ok:bc w mg mb bud C)(fc:FC w F C)(h:jR F σ x=W6 v)(hd:(x== ("__debug__" :ab))=W9)(hc:(x== ("__classdict__" :ab))=W9)(q:Q v σ):
  WA w C ads σ (aZ (.Name x pos) C.env) RV Q R:=by
 rintro s ⟨os,fr,m,X⟩
 have ret:∀u,aU ads v u->ee C ads RV Q u s:=λ u hu=>W.ret (cN _) ⟨os,fr,m,X⟩ hu q;unfold jR at h;rw[fc.scope]at h;refine cL (o:=C.scope.names.lookup x) (λ e=> ?on) λ kd e=> ?os
 case on=>rw[e]at h;contradiction
 case os=>
  rw[e]at h;induction kd <;> simp only at h <;> try contradiction
  ·refine aj (X.loc _ _ h) λ u h1 h2=> ?_
   exact wpAny_Name (wpAny_loadName_local ok.kind e X.F.ns h1 (ret u h2)) hd
  ·refine dY (qc fc X h) λ a u e1 e2 e3=> ?_
   exact wpAny_Name (wpAny_loadName_cell ok.kind e e1 e2 (ret u e3)) hd
  ·refine dY (qc fc X h) λ a u e1 e2 e3=> ?_
   exact wpAny_Name (wpAny_loadName_free ok.kind e e1 e2 (ret u e3) hc) hd
  ·exact sD ok h X.F ok.kind e rfl rfl hd ret
theorem gH(r:bK C ads σ s)(h:Q (.num i) σ):ee C ads RV Q (.int i t) { s with toks:=tk }:=⟨ads,σ, .num i,cN _,r.toks _,⟨t,rfl⟩,h⟩
theorem Ht(r:bK C ads σ s)(h:Q (.bo b) σ):ee C ads RV Q (.bool b) s:=⟨ads,σ, .bo b,cN _,r,rfl,h⟩
theorem qd(r:bK C ads σ s)(h:Q (.st x) σ):ee C ads RV Q (.str ⟨x.toArray⟩ t) { s with toks:=tk }:=⟨ads,σ, .st x,cN _,r.toks _,⟨t,rfl⟩,h⟩
theorem Hu(r:bK C ads σ s)(hb:∀a∈x,a<256)(h:Q (.by_ x) σ):ee C ads RV Q (.bytes (cx x) t) { s with toks:=tk }:=⟨ads,σ, .by_ x,cN _,r.toks _,⟨hb,t,rfl⟩,h⟩
theorem Hv(x y:Ln):cx x++cx y=cx (x++y):=by unfold cx;simp
theorem mq(x:Ln):(cx x).size=x.length:=by unfold cx;simp
theorem Hw(h:pL op a b σ Q)(ha:aU ads a u)(hb:aU ads b v):WA w C ads σ (binaryOp op u v) RV Q R:=by
 intro s r;unfold pL at h;induction a <;> induction b <;> first | exact aF h | skip
 ·obtain⟨t,rfl⟩:=ha;obtain⟨t',rfl⟩:=hb
  induction op <;> first | exact aF h | skip
  ·exact add_int (gH r h)
  ·exact sub_int (gH r h)
  ·exact mul_int (gH r h.2) h.1
  ·exact mod_int' h.1 (gH r h.2)
  ·exact pow_int_small h.1 h.2.1 h.2.2.1 (gH r h.2.2.2)
  ·exact floordiv_int h.1 (gH r h.2.2) (.inl h.2.1)
 ·rename_i x y
  obtain⟨t,rfl⟩:=ha;obtain⟨t',rfl⟩:=hb;induction op <;> first | exact aF h | skip
  refine add_str (λ t' tk=> ?_) (by rw[gT];have:=h.1;show x.toArray.size+y.toArray.size<=_;simp;omega)
  have e:(⟨x.toArray⟩:ab)++⟨y.toArray⟩=⟨(x++y).toArray⟩:=by show ab.mk _=_;simp
  rw[e];exact qd r h.2
 ·rename_i x y
  obtain⟨h1,t,rfl⟩:=ha;obtain⟨h2,t',rfl⟩:=hb;induction op <;> first | exact aF h | skip
  refine KBy.add_bytes (by rw[mq,mq];omega) λ t' k=> ?_
  rw[Hv];exact Hu r (λ a ha=>(bV.mp ha).elim (h1 a) (h2 a)) h.2
theorem Hx(h:r_ op a σ Q)(ha:aU ads a u):WA w C ads σ (unaryOp op u) RV Q R:=by
 intro s r;induction op <;> first | exact aF h | skip
 ·induction a <;> first | exact aF h | skip
  obtain rfl:=ha;exact not_of (jE (Ht r h))
 ·induction a <;> first | exact aF h | skip
  obtain⟨t,rfl⟩:=ha;exact neg_int (gH r h)
theorem xO(ha:a<256)(hb:b<256)(h:jJ a=jJ b):a=b:=by
 have:=congrArg UInt8.toNat h
 simpa[Nat.mod_eq_of_lt ha,Nat.mod_eq_of_lt hb] using this
theorem sF:∀{x y:Ln},(∀a∈x,a<256)->(∀a∈y,a<256)->((cx x).toList== (cx y).toList)=aR x y
 | [], [],_,_=>rfl
 | [],_::_,_,_=>rfl
 | _::_, [],_,_=>rfl
 | a::r,b::t,h1,h2=>by
  have ih:=sF (x:=r) (y:=t) (λ c hc=>h1 c (.tail _ hc)) λ c hc=>h2 c (.tail _ hc);show ((jJ a==jJ b) && ((cx r).toList== (cx t).toList))= (aO a b && aR r t);rw[ih]
  congr 1
  by_cases e:a=b
  ·subst e;simp
  ·have: ¬ (jJ a=jJ b):=λ q=>e (xO (h1 a (.head _)) (h2 b (.head _)) q)
   rw[beq_eq_false_iff_ne.mpr this];exact(lN.mpr λ q=>e (dc q)).symm
abbrev RB(_:Ld)(r:az)(b:Bool):Prop:=r= .bool b
theorem Hy(a b:Ln):aR a b= (a==b):=by
 induction a generalizing b with
 | nil=>induction b <;> rfl
 | cons x r ih=>
  induction b with
  | nil=>rfl
  | cons y t=>
   rw[FR];rw[ih,List.cons_beq_cons]
   congr 1
   by_cases e:x=y
   ·subst e;rw[jl];simp
   ·rw[beq_eq_false_iff_ne.mpr e];exact lN.mpr λ q=>e (dc q)
theorem qe(x y:Ln):((⟨x.toArray⟩:ab)==⟨y.toArray⟩)=aR x y:=by
 rw[Hy]
 by_cases e:x=y
 ·subst e;simp
 ·have: ¬ ((⟨x.toArray⟩:ab)=⟨y.toArray⟩):=λ q=>e (by simpa using q)
  rw[beq_eq_false_iff_ne.mpr this,beq_eq_false_iff_ne.mpr e]
theorem xP:∀x y:List Nat,(!W_ (y<x))=iS x y
 | [],y=>by simp only[show iS [] y=W8 from by induction y <;> rfl];simp
 | a::r, []=>by simp only[show iS (a::r) []=W9 from rfl];simp
 | a::r,b::t=>by
  rw[xn];have ih:=xP r t;cases h:dT a b with
  | true=>
   have h:a<b:=by simpa[gh] using h
   simp only[Bool.not_eq_true',decide_eq_false_iff_not,List.cons_lt_cons_iff];lia
  | false=>
   have h:b<=a:=by
    have: ¬ a<b:=λ q=>by rw[(gh).mpr q]at h;contradiction
    exact jF ‹_›
   simp only;rw[←ih]
   by_cases e:a=b
   ·subst e
    simp[List.cons_lt_cons_iff]
   ·have h1:aO a b=W9:=lN.mpr λ q=>e (dc q)
    rw[h1];have:b<a:=by lia
    simp[List.cons_lt_cons_iff,this]
theorem xQ(h:∀x∈l,x<256)(hi:i<256):(cx l).contains i.toUInt8=eg i l:=by
 unfold cx;rw[List.contains_toArray];induction l with
 | nil=>rfl
 | cons a r ih=>
  rw[eW,List.contains_cons,ih λ x hx=>h x (.tail _ hx)];show _= (aO a i || eg i r)
  congr 1
  by_cases e:a=i
  ·subst e
   rw[jl];exact beq_self_eq_true _
  ·have h1:aO a i=W9:=lN.mpr λ q=>e (dc q)
   rw[h1];exact beq_eq_false_iff_ne.mpr λ q=>e (xO (h a (.head _)) hi q.symm)
theorem sG:∀{ns:List Int} {vs:Lv},bk ads (ns.map .num) vs->IntsAre vs ns
 | [],_, .nil=> .nil
 | _::_,_, .cons ⟨t,e⟩ y=>by subst e;exact .cons _ t (sG y)
theorem nU:∀{xs:Ll} {vs:Lv},bk ads (xs.map .st) vs->StrsAre vs (xs.map λ x=>⟨x.toArray⟩):=by
 intro xs;induction xs with
 | nil=>intro vs h;cases h;exact .nil
 | cons a l ih=>
  intro vs h;refine dY h.inv_cons λ b t zq x y=> ?_;subst zq;obtain⟨t,rfl⟩:=x;exact .cons _ t (ih y)
theorem sH(i:Int):∀ns:List Int,(ns.any λ x=>x==i)=fX i ns
 | []=>rfl
 | j::r=>by rw[List.any_cons,sH i r];rfl
theorem nV(x:Ln):∀ys:List (List Nat),((ys.map λ y=>(⟨y.toArray⟩:ab)).any λ z=>z==⟨x.toArray⟩)=cw x ys
 | []=>rfl
 | y::r=>by rw[eW,List.any_cons,nV x r,qe];rfl
inductive sI (h:bS) (v:az) (ys:Ll):Prop
 | list (a:ak) (vs:Lv):v= .ref a->h.IsList a vs.toArray->StrsAre vs (ys.map λ x=>⟨x.toArray⟩)->sI h v ys
 | tup (a:ak) (vs:Array az):v= .ref a->IsTup h a vs->StrsAre vs.toList (ys.map λ x=>⟨x.toArray⟩)->sI h v ys
theorem xR(P:fm)(h:pM a=W6 ys):∃vs,(K0 P).lookup a=W6 (iK vs 0)/\StrsAre vs.toList (ys.map λ x=>⟨x.toArray⟩):=by
 unfold pM at h;refine cF (b:=aO a 187) (λ q=> ?bt) λ q=> ?bf
 case bt=>
  rw[q]at h;injection h with zq;subst zq
  rw[dc q];exact⟨_,(by kernel_rfl:(K0 P).lookup 187=W6 (iK [(.str (m7 "HEADER") 419),(.str (m7 "TEXT") 420),(.str (m7 "MIME") 421),(.str (m7 "HEADER.FIELDS") 422),(.str (m7 "HEADER.FIELDS.NOT") 423)].toArray 0)),
   .cons _ _ (.cons _ _ (.cons _ _ (.cons _ _ (.cons _ _ .nil))))⟩
 case bf=>
  rw[q]at h;refine cF (b:=aO a 188) (λ q2=> ?bt) λ q2=> ?bf
  case bt=>
   rw[q2]at h;injection h with zq;subst zq
   rw[dc q2];exact⟨_,(by kernel_rfl:(K0 P).lookup 188=W6 (iK [(.str (m7 "HEADER.FIELDS") 425),(.str (m7 "HEADER.FIELDS.NOT") 426)].toArray 0)), .cons _ _ (.cons _ _ .nil)⟩
  case bf=>
   rw[q2]at h;refine cF (b:=aO a 589) (λ q3=> ?bt) λ q3=> ?bf
   case bt=>
    rw[q3]at h;injection h with zq;subst zq
    rw[dc q3];exact⟨_,(by kernel_rfl:(K0 P).lookup 589=W6 (iK [(.str "a" 953),(.str "Z" 954),(.str " " 955),(.str "]" 956),(.str "{" 957),(.str "(" 958),(.str "\\\"" 959),(.str "\\\\" 960),(.str "%" 961),(.str "~" 962)].toArray 0)),
     .cons _ _ (.cons _ _ (.cons _ _ (.cons _ _ (.cons _ _ (.cons _ _ (.cons _ _ (.cons _ _ (.cons _ _ (.cons _ _ .nil)))))))))⟩
   case bf=>rw[q3]at h;contradiction
theorem dZ{k:Nat}{ax:ak}{s:aw}{os:Lo}{fr:Tf}{m:Tm}(X:aE C ads σ s os fr m)(hax:ads[k]? =W6 ax){ao:AO}(e:σ.objs[k]? =W6 ao):
  ∃o,os[k]? =W6 o/\cy ads ao o/\s.heap.get? ax=W6 o:=by
 refine il (X.obj e) λ a' o e1 e0 e2 e3 _=> ?_;rw[hax]at e1;obtain rfl:=bQ e1;exact⟨o,e0,e2,e3⟩
theorem xS{b:AV}{v:az}{ys:Ll}{s:aw}{os:Lo}{fr:Tf}{m:Tm}(ok:bc w mg mb bud C)(X:aE C ads σ s os fr m)(h:kP b σ=W6 ys)(hb:aU ads b v):sI s.heap v ys:=by
 cases b <;> first | contradiction | skip
 ·rename_i k
  revert hb;refine b7 λ a ha zq2=> ?_;subst zq2;revert h;refine cj bO.mp λ ao q h=> ?_;refine cO (dZ X ha q) λ o _ e1 e2=> ?_;cases ao <;> first | cases h | skip
  ·revert e1
   refine c7 λ vs n zq2 hc=> ?_;subst zq2;rw[l0 h]at hc;exact .list a vs.toList rfl ⟨_,e2,rfl,n,by simp⟩ (nU hc)
  ·revert e1
   refine c7 λ vs n zq2 hc=> ?_;subst zq2;exact .list a vs.toList rfl ⟨_,e2,rfl,n,by simp⟩ (nU hc)
  ·revert e1
   refine c7 λ vs n zq2 hc=> ?_;subst zq2;rw[l0 h]at hc;exact .tup a vs rfl ⟨_,e2,rfl,n,rfl⟩ (nU hc)
  ·revert e1
   refine c7 λ vs n zq2 hc=> ?_;subst zq2;exact .tup a vs rfl ⟨_,e2,rfl,n,rfl⟩ (nU hc)
 ·rename_i g
  induction g <;> first | contradiction | skip
  obtain rfl:=hb;refine aj (xR w.params h) λ vs h1 h2=> ?_;exact .tup _ vs rfl ⟨_,X.F.keep _ _ (ok.K _ _ h1),rfl,0,rfl⟩ h2
theorem xT{b:AV}{v:az}{ns:List Int}{s:aw}{os:Lo}{fr:Tf}{m:Tm}(X:aE C ads σ s os fr m)(h:kQ b σ=W6 ns)(hb:aU ads b v):∃a vs,v= .ref a/\IsTup s.heap a vs/\IntsAre vs.toList ns:=by
 induction b <;> first | contradiction | skip
 rename_i k;revert hb;refine b7 λ a ha zq2=> ?_;subst zq2;revert h;refine cj bO.mp λ ao q h=> ?_;refine cO (dZ X ha q) λ o _ e2 e3=> ?_;induction ao <;> first | contradiction | skip
 revert e2;refine c7 λ vs n zq2 hc=> ?_;subst zq2;rw[rW h]at hc;exact⟨a,vs,rfl,⟨_,e3,rfl,n,rfl⟩,sG hc⟩
theorem Hz(h:sb a b=W6 c)(ha:aU ads a u)(hb:aU ads b v):SeqAt.EqAt A s u v c:=by
 induction a <;> first | contradiction | skip
 ·cases b <;> first | cases h | skip
  obtain⟨t,rfl⟩:=ha;obtain⟨t',rfl⟩:=hb;exact SeqAt.EqAt.int_int _ t _ t'
 ·cases b <;> first | cases h | skip
  obtain⟨t,rfl⟩:=ha;obtain⟨t',rfl⟩:=hb;rw[←qe];exact SeqAt.EqAt.str_str _ t _ t'
theorem HA(n:Nat)(e:Nat->Bool):(List.range (n+1)).all e= (e 0 && (List.range n).all λ i=>e (i+1)):=by
 rw[List.range_succ_eq_map,jI,List.all_map];rfl
theorem xU(h:kR xs ys=W6 c)(h1:bk ads xs us)(h2:bk ads ys vs):
  ∃e:Nat->Bool,c= ((List.range (min us.length vs.length)).all e && us.length==vs.length)/\∀j (h1:j<us.length) (h2:j<vs.length),SeqAt.EqAt A s us[j] vs[j] (e j):=by
 induction h1 generalizing ys vs c with
 | nil=>
  induction h2 with
  | nil=>(injection h with zq;subst zq);exact⟨λ _=>W8,rfl,λ j h1=>absurd h1 (jH _)⟩
  | cons _ _=>(injection h with zq;subst zq);exact⟨λ _=>W8,by simp,λ j h1=>absurd h1 (jH _)⟩
 | cons x y ih=>
  induction h2 with
  | nil=>(injection h with zq;subst zq);exact⟨λ _=>W8,by simp,λ j _ h2=>absurd h2 (jH _)⟩
  | cons x' y'=>
  refine aj (bO.mp h) λ c1 h1 h2=> ?_;refine aj (ez.mp h2) λ c2 h3 zq2=> ?_;subst zq2;refine aj (ih h3 y') λ e h4 h5=> ?_;refine⟨λ j=>match j with | 0=>c1 | j+1=>e j, ?_,λ j q1 q2=> ?_⟩
  ·rw[df,df,Nat.succ_min_succ,HA,h4,Bool.and_assoc]
   congr 2
   simp
  ·induction j with
   | zero=>exact Hz h1 x x'
   | succ j=>exact h5 j (by simpa using q1) (by simpa using q2)
theorem xV:∀xs ys:List (List Nat),kR (xs.map .st) (ys.map .st)=W6 (g0 xs ys)
 | [], []=>rfl
 | [],_::_=>rfl
 | _::_, []=>rfl
 | x::r,y::t=>by
  show (sb (.st x) (.st y)).bind _=_;rw[xV r t];rfl
theorem HB(ok:bc w mg mb bud D):D.A.units<cLine:=by
 have:=ok.un;show D.un<_;lia
theorem xW{a b:AV}{u v:az}{Q:Bool->Prop}(ok:bc w mg mb bud C)(h:pN a b σ Q)(ha:aU ads a u)(hb:aU ads b v){s:aw}{os:Lo}{fr:Tf}{m:Tm}(X:aE C ads σ s os fr m):
  ∃x y c,u= .ref x/\v= .ref y/\Q c/\SeqAt.RcAt C.A s (.ref x) (.ref y) c/\((∃i,IsTup s.heap x i)->SeqAt.RcNeAt C.A s (.ref x) (.ref y) (!c)):=by
 have hu:=HB ok;induction a <;> first | exact aF h | skip
 induction b <;> first | exact aF h | skip
 revert ha;refine b7 λ x hx zq2=> ?_;subst zq2;revert hb;refine b7 λ y hy zq2=> ?_;subst zq2;revert h;refine bF λ _ h=> ?_;revert h;refine cj bw λ o1 e1 h=> ?_;revert h;refine cj bw λ o2 e2 h=> ?_;revert h;refine cj bw λ c hc h=> ?_;refine cO (dZ X hx e1) λ ob1 _ r1 g1=> ?_;refine cO (dZ X hy e2) λ ob2 _ r2 g2=> ?_;have tups:∀{xs ys:List AV} {us vs:Array az} {n n':Nat},s.heap.get? x=W6 (iK us n)->s.heap.get? y=W6 (iK vs n')->bk ads xs us.toList->bk ads ys vs.toList->kR xs ys=W6 c->
   ∃x' y' c,di x= .ref x'/\di y= .ref y'/\Q c/\SeqAt.RcAt C.A s (.ref x') (.ref y') c/\((∃i,IsTup s.heap x' i)->SeqAt.RcNeAt C.A s (.ref x') (.ref y') (!c)):=λ {xs ys us vs n n'} g1 g2 c1 c2 hf=>by
  refine aj (xU (A:=C.A.in1) (s:=s) hf c1 c2) λ e h4 h5=> ?_;have h4':c= ((List.range (min us.size vs.size)).all e && us.size==vs.size):=by simpa using h4
  have he:∀j (h1:j<us.size) (h2:j<vs.size),SeqAt.EqAt C.A.in1 s us[j] vs[j] (e j):=λ j h1 h2=>by
    have q:=h5 j (by simpa using h1) (by simpa using h2)
    rw[Array.getElem_toList,Array.getElem_toList]at q;exact q
  subst h4';exact⟨x,y,_,rfl,rfl,h,SeqAt.RcAt.tuples ⟨_,g1,rfl,n,rfl⟩ ⟨_,g2,rfl,n',rfl⟩ hu he,λ _=>SeqAt.RcNeAt.tuples ⟨_,g1,rfl,n,rfl⟩ ⟨_,g2,rfl,n',rfl⟩ hu he⟩
 have VK:∀{us:Array az} {n:Nat} {P:Prop},s.heap.get? x=W6 (listOf us n)->(∃i,IsTup s.heap x i)->P:=λ {us n P} g1 ⟨i,o,g,VE,_⟩=>by
  rw[g1]at g;obtain rfl:=bQ g;exact absurd (az.type.inj VE) (by decide)
 induction o1 with
 | lst xs=>
  induction o2 with
  | lst ys=>
   revert r1;refine c7 λ us n zq2 c1=> ?_;subst zq2;revert r2;refine c7 λ vs n' zq2 c2=> ?_;subst zq2;have l1:=c1.len;have l2:=c2.len;have Ut:(match aO xs.length ys.length with
    | true=>kR xs ys
    | false=>W6 W9)=W6 c:=hc
   refine cF (b:=aO xs.length ys.length) (λ q=> ?bt) λ q=> ?bf
   case bt=>
    rw[q]at Ut;have q:=dc q;have hsz:us.size=vs.size:=by simp at l1 l2;lia
    refine aj (xU (A:=C.A.in1) (s:=s) Ut c1 c2) λ e h4 h5=> ?_;have h4':c= (List.range us.size).all e:=by simpa[hsz] using h4
    have he:∀j (h1:j<us.size) (h2:j<vs.size),SeqAt.EqAt C.A.in1 s us[j] vs[j] (e j):=λ j h1 h2=>by
     have q:=h5 j (by simpa using h1) (by simpa using h2)
     rw[Array.getElem_toList,Array.getElem_toList]at q;exact q
    subst h4';exact⟨x,y,_,rfl,rfl,h,SeqAt.RcAt.lists ⟨_,g1,rfl,n,rfl⟩ ⟨_,g2,rfl,n',rfl⟩ hsz hu he,VK g1⟩
   case bf=>
    rw[q]at Ut;injection Ut with zq;subst zq
    have TT:(us.size !=vs.size)=W8:=by
     have: ¬ xs.length=ys.length:=λ e=>by rw[e,jl]at q;contradiction
     simp at l1 l2 ⊢;lia
    exact⟨x,y,_,rfl,rfl,h,SeqAt.RcAt.lists_lengths ⟨_,g1,rfl,n,rfl⟩ ⟨_,g2,rfl,n',rfl⟩ TT hu,VK g1⟩
  | _=>contradiction
 | tup xs=>
  induction o2 with
  | tup ys=>
   revert r1;refine c7 λ us n zq2 c1=> ?_;subst zq2;revert r2;refine c7 λ vs n' zq2 c2=> ?_;subst zq2;exact tups g1 g2 c1 c2 hc
  | _=>contradiction
 | tupS xs=>
  induction o2 with
  | tupS ys=>
   revert r1;refine c7 λ us n zq2 c1=> ?_;subst zq2;revert r2;refine c7 λ vs n' zq2 c2=> ?_;subst zq2;injection hc with zq;subst zq
   exact tups g1 g2 c1 c2 (xV _ _)
  | _=>contradiction
 | _=>contradiction
theorem jW{op:CmpOp}{Q:Bool->Prop}(ok:bc w mg mb bud C)(h:fs op a b σ Q)(ha:aU ads a u)(hb:aU ads b v):WA w C ads σ (jo op u v) RB (λ c σ'=>σ'=σ/\Q c) R:=by
 intro s r;have ret:∀c,Q c->ee C ads RB (λ c σ'=>σ'=σ/\Q c) (.bool c) s:=λ c hc=>⟨ads,σ,c,cN _,r,rfl,rfl,hc⟩;refine nj (id r) λ os fr m X=> ?_;refine hid λ G kG=> ?_;have arith:xo op a b σ Q->G:=by
  clear h
  intro h;induction a <;> induction b <;> first | exact aF h | skip
  ·obtain⟨t,rfl⟩:=ha;obtain⟨t',rfl⟩:=hb
   induction op <;> first | exact aF h | skip
   ·exact kG (eq_int (ret _ h))
   ·exact kG (ne_int (ret _ h))
   ·exact kG (lt_int (ret _ h))
   ·exact kG (le_int (ret _ h))
   ·exact kG (gt_int (ret _ h))
   ·exact kG (ge_int (ret _ h))
  ·rename_i x y
   obtain⟨t,rfl⟩:=ha;obtain⟨t',rfl⟩:=hb;induction op <;> first | exact aF h | skip
   ·exact kG (eq_str (by rw[qe];exact ret _ h))
   ·refine kG (ne_str ?_)
    have:((⟨x.toArray⟩:ab) !=⟨y.toArray⟩)= !aR x y:=by unfold bne;rw[qe]
    rw[this];exact ret _ h
   ·refine kG (P.le_str ?_)
    have:(!W_ ((⟨y.toArray⟩:ab).cps.toList<(⟨x.toArray⟩:ab).cps.toList))=iS x y:=xP x y;rw[this];exact ret _ h
  ·rename_i x y
   obtain⟨h1,t,rfl⟩:=ha;obtain⟨h2,t',rfl⟩:=hb;induction op <;> first | exact aF h | skip
   ·exact kG (eq_bytes (by rw[sF h1 h2];exact ret _ h))
   ·refine kG (ne_bytes ?_)
    have:((cx x).toList != (cx y).toList)= !aR x y:=by unfold bne;rw[sF h1 h2]
    rw[this];exact ret _ h
  ·rename_i k j
   cases op <;> first | exact aF h | skip
   ·have h:pN (.ob k) (.ob j) σ Q:=h
    refine u9 (xW ok h ha hb X) λ x y c Tp zq4 q rc _=> ?_;subst Tp;subst zq4;exact kG (rc _ _ _ _ (ret _ q))
   ·revert h;refine cj bw λ o e h=> ?_
    revert h;refine cK bA λ ht h=> ?_;refine u9 (xW ok h ha hb X) λ x y c hx zq4 q rc ne=> ?_;subst zq4;revert ha;refine b7 λ a' Va zq2=> ?_;subst zq2;injection hx with zq;subst zq
    refine cO (dZ X Va e) λ ob _ r1 g1=> ?_;refine kG (ne ?_ _ _ _ _ (ret _ q));cases o <;> first | cases ht | skip
    ·obtain⟨us,n,rfl,_⟩:=r1;exact⟨us,_,g1,rfl,n,rfl⟩
    ·obtain⟨us,n,rfl,_⟩:=r1;exact⟨us,_,g1,rfl,n,rfl⟩
 unfold fs at h;induction op
 case Is=>
  induction b <;> first | exact aF h | skip
  obtain rfl:=hb;induction a <;> first | exact aF h | skip
  ·obtain rfl:=ha;exact kG (wpAny_is_plain rfl (ret _ h))
  ·obtain rfl:=ha;exact kG (wpAny_is_plain rfl (ret _ h))
  ·obtain⟨t,rfl⟩:=ha;exact kG (wpAny_is_plain rfl (ret _ h))
  ·obtain⟨t,rfl⟩:=ha;exact kG (wpAny_is_plain rfl (ret _ h))
  ·obtain⟨_,t,rfl⟩:=ha;exact kG (wpAny_is_plain rfl (ret _ h))
  ·obtain⟨_,t,rfl⟩:=ha;exact kG (wpAny_is_plain rfl (ret _ h))
 case IsNot=>
  induction b <;> first | exact aF h | skip
  obtain rfl:=hb;induction a <;> first | exact aF h | skip
  ·obtain rfl:=ha;exact kG (oY rfl (ret _ h))
  ·obtain rfl:=ha;exact kG (oY rfl (ret _ h))
  ·obtain⟨t,rfl⟩:=ha;exact kG (oY rfl (ret _ h))
  ·obtain⟨t,rfl⟩:=ha;exact kG (oY rfl (ret _ h))
  ·obtain⟨_,t,rfl⟩:=ha;exact kG (oY rfl (ret _ h))
  ·obtain⟨_,t,rfl⟩:=ha;exact kG (oY rfl (ret _ h))
 case In=>
  induction a <;> first | exact aF h | skip
  ·rename_i i
   obtain⟨t,rfl⟩:=ha;induction b <;> first | exact aF h | skip
   ·obtain⟨h1,t',rfl⟩:=hb
    exact kG (E4 h.1 h.2.1 (by rw[xQ h1 (by have:=h.2.1;omega)];exact ret _ h.2.2))
   ·rename_i k
    have h:(match kQ (.ob k) σ with
     | some ns=>Q (fX i ns)
     | none=>False):=h
    refine cL (o:=kQ (.ob k) σ) (λ TY=> ?on) λ ns TY=> ?os
    case on=>rw[TY]at h;exact h.elim
    case os=>
     rw[TY]at h;refine dY (xT X TY hb) λ a vs zq2 hT hi=> ?_;subst zq2;exact kG (in_tuple_ints hT hi (by rw[sH];exact ret _ h))
  ·rename_i x
   obtain⟨t,rfl⟩:=ha;have h:(match kP b σ with
    | some ys=>Q (cw x ys)
    | none=>False):=h
   refine cL (o:=kP b σ) (λ UZ=> ?on) λ ys UZ=> ?os
   case on=>rw[UZ]at h;exact h.elim
   case os=>
    rw[UZ]at h;cases xS ok X UZ hb with
    | list a vs e hl hs=>subst e;exact kG (in_list_strs hl hs (by rw[nV];exact ret _ h))
    | tup a vs e hl hs=>subst e;exact kG (in_tuple_strs hl hs (by rw[nV];exact ret _ h))
 case NotIn=>
  induction a <;> first | exact aF h | skip
  ·rename_i i
   obtain⟨t,rfl⟩:=ha;induction b <;> first | exact aF h | skip
   ·obtain⟨h1,t',rfl⟩:=hb
    exact kG (E5 h.1 h.2.1 (by rw[xQ h1 (by have:=h.2.1;omega)];exact ret _ h.2.2))
   ·rename_i k
    have h:(match kQ (.ob k) σ with
     | some ns=>Q (!fX i ns)
     | none=>False):=h
    refine cL (o:=kQ (.ob k) σ) (λ TY=> ?on) λ ns TY=> ?os
    case on=>rw[TY]at h;exact h.elim
    case os=>
     rw[TY]at h;refine dY (xT X TY hb) λ a vs zq2 hT hi=> ?_;subst zq2;exact kG (notin_tuple_ints hT hi (by rw[sH];exact ret _ h))
  ·rename_i x
   obtain⟨t,rfl⟩:=ha;have h:(match kP b σ with
    | some ys=>Q (!cw x ys)
    | none=>False):=h
   refine cL (o:=kP b σ) (λ UZ=> ?on) λ ys UZ=> ?os
   case on=>rw[UZ]at h;exact h.elim
   case os=>
    rw[UZ]at h;cases xS ok X UZ hb with
    | list a vs e hl hs=>subst e;exact kG (notin_list_strs hl hs (by rw[nV];exact ret _ h))
    | tup a vs e hl hs=>subst e;exact kG (notin_tuple_strs hl hs (by rw[nV];exact ret _ h))
 all_goals exact arith h
theorem qf:∀{l:List (ab×AV)} {es:List DictEntry},iJ ads l es->(match l.lookup name with
  | some v=>∃u,getL name es=W6 (W6 u)/\aU ads v u
  | none=>getL name es=W6 W7):=by
 intro l es c;induction c with
 | nil=>rfl
 | @cons p e r es h _ ih=>
  obtain⟨x,a⟩:=p;revert h;refine bF λ Tj hv=> ?_;revert Tj;refine dw λ t hk=> ?_;rw[gO];have hs:e.key.isStr name= (x==name):=by rw[hk];rfl
  have hr:e.refKey=W9:=by unfold DictEntry.refKey;rw[hk]
  cases q:name==x with
  | true=>
   have:(x==name)=W8:=by rw[iw q];simp
   refine⟨e.val, ?_,hv⟩;unfold getL;rw[List.find?_cons,hs,this]
  | false=>
   have:(x==name)=W9:=by rw[beq_eq_false_iff_ne]at q ⊢;exact Ne.symm q
   have eq:getL name (e::es)=getL name es:=by
    unfold getL;rw[List.find?_cons,hs,this,List.any_cons,hr];rfl
   simp only[eq];exact ih
theorem xX(hv:aU ads v u):∀{l:List (ab×AV)} {es:List DictEntry},iJ ads l es->iJ ads (dU name v l) (putL name hsh (.str name tk) u es):=by
 intro l es c;induction c with
 | nil=>exact .cons ⟨⟨tk,rfl⟩,hv⟩ .nil
 | @cons p e r es h y ih=>
  obtain⟨x,a⟩:=p;revert h;refine bF λ Tj VM=> ?_;revert Tj;refine dw λ t hk=> ?_;have hs:e.key.isStr name= (x==name):=by rw[hk];rfl
  rw[pj];unfold putL;rw[hs];cases q:x==name with
  | true=>exact .cons ⟨⟨t,by rw[hk,iw q]⟩,hv⟩ y
  | false=>exact .cons ⟨⟨t,hk⟩,VM⟩ ih
theorem HC:∀{l:List (ab×AV)},(dU name v l).length<=l.length+1:=by
 intro l;induction l with
 | nil=>
  exact ba _
 | cons p r ih=>
  rw[pj];cases p.1==name with
  | true=>exact Nat.le_succ _
  | false=>exact Nat.succ_le_succ ih
theorem aE.inst{s:aw}{os:Lo}{fr:Tf}{m:Tm}(X:aE C ads σ s os fr m){k d:Nat}{K:ak}{l:List (ab×AV)}(h1:σ.objs[k]? =W6 (.inst K d))(h2:σ.objs[d]? =W6 (.dic l)):
  ∃a dx es n,ads[k]? =W6 a/\ads[d]? =W6 dx/\os[d]? =W6 (dictOf es n)/\iJ ads l es/\W.InstAt s.heap a (instObj K dx) K (W6 (dictOf es n)):=by
 refine il (X.obj h1) λ a o ha _ zq4 hg _=> ?_;revert zq4;refine b7 λ dx U2 zq2=> ?_;subst zq2;refine il (X.obj h2) λ dx' o' hdx' UQ zq4 WT _=> ?_;revert zq4;refine c7 λ es n zq2 hl=> ?_;subst zq2;rw[U2]at hdx';obtain rfl:=bQ hdx';exact⟨a,dx,es,n,ha,U2,UQ,hl,⟨hg,rfl,rfl,WT⟩⟩
theorem HD(h:aU ads v u)(hv:∀g,v≠ .gl g):handedIn u=W8:=by
 induction v with
 | non=>obtain rfl:=h;rfl
 | bo b=>obtain rfl:=h;rfl
 | num i=>obtain⟨t,rfl⟩:=h;rfl
 | st x=>obtain⟨t,rfl⟩:=h;rfl
 | by_ b=>obtain⟨_,t,rfl⟩:=h;rfl
 | ob k=>obtain⟨a,_,rfl⟩:=h;rfl
 | gl g=>exact absurd rfl (hv g)
theorem HE{a:AV}{u:az}{name:ab}{ex:Bool}(ok:bc w mg mb bud C)(h:pO a name σ Q)(ha:aU ads a u):WA w C ads σ (getAttr u name ex) RV Q R:=by
 rintro s ⟨os,fr,m,X⟩
 unfold pO at h;refine cL (o:=xp a name σ) (λ e=> ?on) λ v e=> ?os
 case on=>rw[e]at h;exact h.elim
 case os=>
  rw[e]at h;induction a <;> first | injection e | skip
  rename_i k;revert e;refine cj bO.mp λ d e1 e=> ?_;revert e1;refine cj bO.mp λ ao h1 e1=> ?_;revert e;refine cj bO.mp λ l e2 e=> ?_;revert e2;refine cj bO.mp λ Vx h2 e2=> ?_;revert e;refine cj bO.mp λ v' e3 e=> ?_;obtain⟨hv,rfl⟩:sd v'=W8/\v'=v:=by
   cases q:sd v' with
   | false=>rw[q]at e;injection e
   | true=>rw[q]at e;exact⟨rfl,bQ e⟩
  have h2:σ.objs[d]? =W6 (.dic l):=by
   cases Vx <;> first | cases e2 | skip
   exact h2
  revert ha;refine b7 λ ax hax zq2=> ?_;subst zq2;refine cO (dZ X hax h1) λ o _ r1 g1=> ?_;refine il (X.obj h2) λ dx o' U2 _ zq4 g2 _=> ?_;revert zq4;refine c7 λ es n zq2 hl=> ?_;subst zq2;have hd:=qf (name:=name) hl;rw[e3]at hd;revert hd;refine b7 λ u hu hc=> ?_;have hh:=HD hc λ g q=>by rw[q]at hv;contradiction
  have hK:=ok.K.keeps X.F.keep;have fin:=W.ret (rel:=RV) (Q:=Q) (cN ads) (bK.toks ⟨os,fr,m,X⟩ (s.toks+1)) hc h;have ofX:g_ name=W8->∀vs,o=gV dx vs->aC (ag pw w) C.A (getAttr (.ref ax) name ex) (ee C ads RV Q) (dD C R) s:=λ q vs e=>by
   subst e;exact Fi hK g1 g2 (G7 q) hu hh fin
  induction ao <;> first | contradiction | skip
  ·rename_i K d'
   have e1':(match l6 K name with
    | true=>W6 d'
    | false=>W7)=W6 d:=e1
   refine cF (b:=l6 K name) (λ q=> ?bt) λ q=> ?bf
   case bf=>rw[q]at e1';contradiction
   case bt=>
    rw[q]at e1';obtain rfl:=bQ e1';revert r1;refine b7 λ dx' hdx' zq2=> ?_;subst zq2;rw[U2]at hdx';obtain rfl:=bQ hdx';have O:=xI (P:=w.params) q;refine aj O.fi λ at_ hf hn=> ?_;exact get_value (od:=W6 (dictOf es n)) hK ⟨g1,rfl,rfl,g2⟩ O.ga (findObj_own (od:=dictOf es n) O.hd hf hn (by show (lookIn name (dictOf es n))=_;rw[lookIn_dict,hu])) hh fin
  ·rename_i d'
   have e1':(match g_ name with
    | true=>W6 d'
    | false=>W7)=W6 d:=e1
   refine cF (b:=g_ name) (λ q=> ?bt) λ q=> ?bf
   case bf=>rw[q]at e1';contradiction
   case bt=>
    rw[q]at e1';obtain rfl:=bQ e1';revert r1;refine lQ λ dx' vs hdx' Tp _=> ?_;subst Tp;rw[U2]at hdx';obtain rfl:=bQ hdx';exact ofX q vs rfl
  ·rename_i d'
   have e1':(match g_ name with
    | true=>W6 d'
    | false=>W7)=W6 d:=e1
   refine cF (b:=g_ name) (λ q=> ?bt) λ q=> ?bf
   case bf=>rw[q]at e1';contradiction
   case bt=>
    rw[q]at e1';obtain rfl:=bQ e1';revert r1;refine lQ λ dx' vs hdx' Tp _=> ?_;subst Tp;rw[U2]at hdx';obtain rfl:=bQ hdx';exact ofX q vs rfl
theorem xY:∀{ads:Ld} {os:Lo} {d:Nat},ads[d]? =W6 dx->os[d]? =W6 o->os.length=ads.length->(ads++fr.map (·.1)).Nodup->Upd dx o o' (ads.zip os++fr) (ads.zip (os.set d o')++fr):=by
 intro ads;induction ads with
 | nil=>intro os d h;cases d <;> contradiction
 | cons a r ih=>
  intro os d h1 h2 hl hn;have hn2:=ku.mp hn;induction os using gS with
  | nil=>cases d <;> contradiction
  | cons b t=>
   induction d using Nat.casesOn with
   | zero=>
    obtain rfl:=bQ h1;obtain rfl:=bQ h2;exact .head λ p hp e=>hn2.1 ((bV.mp hp).elim (λ q=>aj (js q) λ j hj _=>bU _ (e ▸ dH hj)) λ q=>cu _ (e ▸ gN q))
   | succ d=>exact .tail (λ e=>hn2.1 (bU _ ((show a=dx from e) ▸ dH h1))) (ih h1 h2 (ng hl) hn2.2)
theorem aE.upd'{s:aw}{os:Lo}{fr:Tf}{m:Tm}(x:aE C ads σ s os fr m){h':bS}{tk k:Nat}{o':Obj}{ao:AO}(F:Fr C.g C.L h' m)
  (N:News C.g C.L h' (ads.zip (os.set k o')++fr)) (hr:cy ads ao o'):aE C ads ⟨σ.loc,σ.objs.set k ao⟩ { s with heap:=h',toks:=tk } (os.set k o') fr m:=
 ⟨x.hgens,x.hdrawn,x.hos,F,x.loc,N,by rw[o6];exact x.len,x.objs.set hr k,x.nd,x.frs,x.ini⟩
theorem HG{a v:AV}{u uv:az}{name:ab}{Q:AS->Prop}(ok:bc w mg mb bud C)(h:pP a name v σ Q)(ha:aU ads a u)(hv:aU ads v uv):WA w C ads σ (setAttr u name uv) (λ _ _ (_:Unit)=>True) (λ _ σ'=>Q σ') R:=by
 rintro s ⟨os,fr,m,X⟩
 induction a <;> first | exact aF h | skip
 rename_i k;revert ha;refine b7 λ ax hax zq2=> ?_;subst zq2;have hK:=ok.K.keeps X.F.keep;delta pP at h;dsimp only at h;refine cL (o:=σ.objs[k]?) (λ h1=> ?on) λ o1 h1=> ?os
 case on=>rw[h1]at h;exact h.elim
 case os=>
  rw[h1]at h;induction o1 <;> first | exact aF h | skip
  ·rename_i K d
   dsimp only at h;refine cL (o:=σ.objs[d]?) (λ h2=> ?on) λ o2 h2=> ?os
   case on=>rw[h2]at h;exact h.elim
   case os=>
    rw[h2]at h;induction o2 <;> first | exact aF h | skip
    rename_i l;revert h;refine fT fG λ h3 h4 h=> ?_;refine va (X.inst h1 h2) λ a dx es n e1 e2 e3 e4 I=> ?_;rw[e1]at hax;obtain rfl:=bQ hax;have O:=xI (P:=w.params) h3;have hlen:es.length<900:=by rw[←e4.len];simpa[gh] using h4
    have e6:=xX (name:=name) (hsh:=f7 w.params name) (tk:=s.toks+1) hv e4;have hlen':(putL name (f7 w.params name) (.str name (s.toks+1)) uv es).length<=1000:=by
     rw[←e6.len];have:=HC (name:=name) (v:=v) (l:=l);rw[e4.len]at this;lia
    refine set_dict X.F ok.K X.N I rfl O.sa O.po O.tk O.hd ?_ rfl (xY e2 e3 X.len X.nd) hlen' λ h' F' N'=> ?_
    ·have:=qf (name:=name) e4
     refine cL (o:=l.lookup name) (λ q=> ?on) λ v q=> ?os
     case on=>rw[q]at this;rw[this];rfl
     case os=>rw[q]at this;obtain⟨_,hu,_⟩:=this;rw[hu];rfl
    ·exact⟨ads,_,(),cN _,⟨_,fr,m,X.upd' (tk:=s.toks+2) F' N' (ao:= .dic (dU name v l)) ⟨_,_,rfl,e6⟩⟩,trivial,h⟩
  ·rename_i d
   dsimp only at h;refine cL (o:=σ.objs[d]?) (λ h2=> ?on) λ o2 h2=> ?os
   case on=>rw[h2]at h;exact h.elim
   case os=>
    rw[h2]at h;induction o2 <;> first | exact aF h | skip
    rename_i l;revert h;refine fT fG λ h3 h4 h=> ?_;refine il (X.obj h1) λ ax' o e1 _ zq4 hx _=> ?_;revert zq4;refine lQ λ dx vs U2 Tp h6=> ?_;subst Tp;rw[hax]at e1;obtain rfl:=bQ e1;refine il (X.obj h2) λ dx' o' hdx' UQ zq4 WT _=> ?_;revert zq4;refine c7 λ es n zq2 hl=> ?_;subst zq2;rw[U2]at hdx';obtain rfl:=bQ hdx';have hlen:es.length<800:=by rw[←hl.len];simpa[gh] using h4
    refine Fb hK hx WT (xH h3) ?_ (by lia) ?_
    ·have:=qf (name:=name) hl
     refine cL (o:=l.lookup name) (λ q=> ?on) λ v q=> ?os
     case on=>rw[q]at this;rw[this];rfl
     case os=>rw[q]at this;obtain⟨_,hu,_⟩:=this;rw[hu];rfl
    ·have X3:=X.upd (tk:=s.toks+1+1) (k:=d) (f:=kC name (f7 w.params name) (.str name (s.toks+1)) uv) (ao:= .dic (dU name v l)) U2 UQ (putName_dict ..) rfl ⟨_,_,rfl,xX (name:=name) (hsh:=f7 w.params name) (tk:=s.toks+1) hv hl⟩
     exact⟨ads,_,(),cN _,⟨_,fr,m,X3⟩,trivial,h⟩
  ·skip
   revert h;refine cK bA λ h3 h=> ?_;refine il (X.obj h1) λ ax' o e1 e2 zq4 hx _=> ?_;revert zq4;refine b7 λ vs SY h6=> ?_;subst SY;rw[hax]at e1;obtain rfl:=bQ e1;have hlen:σ.objs.length=ads.length:=by rw[X.objs.len,X.len]
   refine Fc hK hx (xH h3) ?_;have X1:=X.push (tk:=s.toks) (o:=fN) (ao:= .dic []) rfl ⟨[],0,rfl, .nil⟩;have lk:k<ads.length:= (dP.mp hax).1;have lko:k<os.length:=by rw[X.len];exact lk
   have X2:=X1.upd (tk:=s.toks) (k:=k) (f:=λ o=> { o with dict:=W6 s.heap.objs.size }) (o':=⟨.ref 71,W6 s.heap.objs.size, .fields vs, #[]⟩) (ao:= .exn σ.objs.length) (by rw[ib lk];exact hax) (by rw[ib lko];exact e2) rfl rfl
    ⟨s.heap.objs.size,vs,by rw[hlen];simp,rfl,h6⟩
   have X3:=X2.upd (tk:=s.toks+1+1) (k:=σ.objs.length) (f:=kC name (f7 w.params name) (.str name (s.toks+1)) uv) (o:=fN) (o':=dictOf [⟨f7 w.params name, .str name (s.toks+1),uv⟩] 1) (ao:= .dic [(name,v)]) (a:=s.heap.objs.size) (by rw[hlen];simp)
    (by rw[List.getElem?_set_ne (by rw[hlen];exact fj lk),hlen,←X.len];simp) (putName_dict name _ _ uv [] 0) rfl ⟨_,_,rfl, .cons ⟨⟨_,rfl⟩,hv.mono (c9 _ _)⟩ .nil⟩
   exact⟨ads++ [s.heap.objs.size],_,(),c9 _ _,⟨_,fr,m,X3⟩,trivial,h⟩
theorem HH{b:Ln}(h:∀x∈b,x<256)(i:Nat):((b.map jJ).getD i 0).toNat=b.getD i 0:=by
 by_cases e:i<b.length
 ·rw[dX,dX,fy,bP e]
  simp[Nat.mod_eq_of_lt (h _ (m_ e))]
 ·rw[dX,dX,m5 (by simpa using e),m5 (by simpa using e)];rfl
theorem mr(he:l7 e=W9)(o i:az):subscripted e W9 o i=operate [o,i] (getItem o i):=by
 cases e <;> first | rfl | contradiction
theorem xZ(h:fF ao=W6 xs)(r:cy ads ao o):∃vs n,o=listOf vs n/\bk ads xs vs.toList:=by
 induction ao <;> first | (injection h;done) | skip
 ·(injection h with zq;subst zq);exact r
 ·(injection h with zq;subst zq);exact r
 ·(injection h with zq;subst zq);exact r
theorem x8(h:j<xs.length):pQ xs j=xs.getD j .non:=by
 have core:∀{α:Type} {f:AV->Option α} {g:α->AV} (d:α) (_:∀a x,f a=W6 x->a=g x) {xs:List AV} {l:List α},bZ f xs=W6 l->∀{j},j<xs.length->g (l.getD j d)=xs.getD j .non:=by
  intro α f g d hf xs;induction xs with
  | nil=>intro l _ j hj;exact absurd hj (jH _)
  | cons x r ih=>
   intro l hl j hj;rw[jP]at hl;refine aj (bO.mp hl) λ y h1 h2=> ?_;refine aj (ez.mp h2) λ z h3 zq2=> ?_;subst zq2;induction j with
   | zero=>exact(hf _ _ h1).symm
   | succ j=>exact ih h3 (by simpa using hj)
 unfold pQ
 split
 ·rename_i l e
  exact core [] (λ a x q=>by cases a <;> cases q <;> rfl) e h
 ·split
  ·rename_i l e
   exact core 0 (λ a x q=>by cases a <;> cases q <;> rfl) e h
  ·split
   ·rename_i l e
    exact core [] (λ a x q=>by cases a <;> cases q <;> rfl) e h
   ·rfl
theorem nW{l:List AV}{i:Nat}{a:AV}(h:l[i]? =W6 a):l.getD i .non=a:=by rw[dX,h];rfl
theorem x9{ao:AO}{S:xq}{o:Obj}(h:l8 ao=W6 S)(r:cy ads ao o):∃xs vs n,(o=match S.isL with
  | true=>listOf vs n
  | false=>iK vs n)/\bk ads xs vs.toList/\xs.length=S.len/\∀j,j<xs.length->S.at_ j=xs.getD j .non:=by
 cases ao <;> first | cases h | skip
 ·obtain⟨vs,n,rfl,c⟩:=r;exact⟨_,vs,n,rfl,c,rfl,λ j hj=>x8 hj⟩
 ·rename_i xs
  revert r;refine c7 λ vs n zq2 c=> ?_;subst zq2;refine⟨_,vs,n,rfl,c,by simp,λ j hj=> ?_⟩
  have hj':j<xs.length:=by simpa using hj
  rw[nW (a:=Xd xs[j]) (by rw[fy,bP hj'];rfl)]
  show Xd _=_;rw[dX,bP hj'];rfl
 ·rename_i xs
  revert r;refine c7 λ vs n zq2 c=> ?_;subst zq2;refine⟨_,vs,n,rfl,c,by simp,λ j hj=> ?_⟩
  have hj':j<xs.length:=by simpa using hj
  rw[nW (a:=Xc xs[j]) (by rw[fy,bP hj'];rfl)]
  show Xc _=_;rw[dX,bP hj'];rfl
 ·obtain⟨vs,n,rfl,c⟩:=r;exact⟨_,vs,n,rfl,c,rfl,λ j hj=>x8 hj⟩
 ·rename_i xs
  revert r;refine c7 λ vs n zq2 c=> ?_;subst zq2;refine⟨_,vs,n,rfl,c,by simp,λ j hj=> ?_⟩
  have hj':j<xs.length:=by simpa using hj
  rw[nW (a:=Xd xs[j]) (by rw[fy,bP hj'];rfl)]
  show Xd _=_;rw[dX,bP hj'];rfl
theorem HI{i:Int}{n:Nat}(h0: -(n:Int)<=i)(h1:i<n):seqIndex? i n=W6 (bH i n)/\bH i n<n:=by
 induction i with
 | ofNat j=>
  have hj:j<n:=by simpa using h1
  refine⟨?_,hj⟩;have hn: ¬ ((j:Int)<0):=by simp
  show seqIndex? (j:Int) n=W6 j;unfold seqIndex?;simp only[if_neg hn];rw[if_pos (by simp[hj])]
  simp
 | negSucc j=>
  have hj:j+1<=n:=by lia
  have hneg:gy j<0:=Int.negSucc_lt_zero j;have e:((n - (j+1):Nat):Int)=gy j+n:=by lia
  refine⟨?_,by show n - (j+1)<n;omega⟩
  have h2:0<=gy j+(n:Int):=by lia
  have h3:gy j+(n:Int)<n:=by lia
  have h4:(gy j+(n:Int)).toNat=n - (j+1):=by omega
  show seqIndex? (gy j) n=W6 (n - (j+1));unfold seqIndex?;rw[←h4];simp only[hneg,if_true];rw[if_pos (by simp[h2,h3])]
theorem HJ{a i:AV}{u v:az}{e e':Expr}(ok:bc w mg mb bud C)(he:l7 e=W9)(h:se a i σ Q)(ha:aU ads a u)(hi:aU ads i v):WA w C ads σ (subscriptTail e' e u v) RV Q R:=by
 intro s r;induction i <;> first | exact aF h | skip
 rename_i i;revert hi;refine dw λ t' SY=> ?_;subst SY;induction a <;> first | exact aF h | skip
 ·rename_i b
  revert ha;refine dw λ t SY=> ?_;subst SY;revert h;refine fq λ h1 h2 h3 h=> ?_;have hlt:i.toNat<b.length:= (Int.toNat_lt (by lia)).mpr (by lia)
  refine tail_any (typeIs_str _ _ _) F.slot_str_getitem.lookup (P.getItem_str (c:=b.getD i.toNat 0) (by simp;lia) ?_ (qd (x:= [b.getD i.toNat 0]) r h)) (mr he _ _)
  have hn: ¬ i<0:=by lia
  have hl:(⟨b.toArray⟩:ab).length=b.length:=by show b.toArray.size=_;simp
  rw[hl];simp[seqIndex?,hn,h2,h3,dX,bP hlt]
 ·revert ha
  refine nh λ hb t zq2=> ?_;subst zq2;revert h;refine fq λ h1 h2 h3 h=> ?_;refine tail_any (typeIs_bytes _ _ _) FB.slot_bytes_getitem.lookup (getItem_bytes (by rw[dq];lia) h2 (by rw[dq];exact h3) ?_) (mr he _ _)
  rw[HH hb];exact gH r h
 ·rename_i k
  revert ha;refine b7 λ ax hax zq2=> ?_;subst zq2;refine nj (id r) λ os fr m X=> ?_;revert h;refine vg bw λ S hS h2 h3 h1 h=> ?_;revert hS;refine cj bO.mp λ ao hk hS=> ?_;refine cO (dZ X hax hk) λ o _ r1 g1=> ?_;refine lR (x9 hS r1) λ xs vs n ho hc hlen Wd=> ?_;refine aI (HI h2 h3) λ hw hlt=> ?_;have hsz:vs.size=S.len:=by rw[←hlen,hc.len];simp
  replace hlt:bH i S.len<xs.length:=by lia
  refine aj (hc.get (bP hlt)) λ b hb hcb=> ?_;rw[Wd _ hlt,nW (bP hlt)]at h;have fin:ee C ads RV Q b s:=⟨ads,σ,_,cN _,r,hcb,h⟩;refine cF (b:=S.isL) (λ hL=> ?bt) λ hL=> ?bf
  case bt=>
   rw[hL]at ho;subst ho
   by_cases hneg:i<0
   ·exact kde_neg (vs:=vs.toList) ⟨_,g1,rfl,n,by simp[W.listOf]⟩ hneg (by lia) (by rw[Array.length_toList,hsz];exact hw) hb fin (mr he _ _)
   ·refine tail_any ⟨_,g1,rfl⟩ list_getitem_lookup (wpAny_getItem_list (items:=vs) ⟨_,g1,rfl,n,rfl⟩ (by exact Int.not_lt.mp ‹_›) (by lia) ?_ fin) (mr he _ _)
    have:bH i S.len=i.toNat:=by
     unfold seqIndex? at hw;simp only[if_neg hneg]at hw
     split at hw
     ·exact(bQ hw).symm
     ·contradiction
    rw[←Array.getElem?_toList,←this];exact hb
  case bf=>
   rw[hL]at ho;subst ho;exact tail_any ⟨_,g1,rfl⟩ F.slot_tuple_getitem.lookup (getItem_tuple (items:=vs) (j:=bH i S.len) ⟨_,g1,rfl,n,rfl⟩ (by lia) (by lia) (by rw[hsz];exact hw) (by rw[←Array.getElem?_toList];exact hb) fin) (mr he _ _)
 ·rename_i g
  induction g <;> first | exact aF h | skip
  rename_i a;obtain rfl:=ha;revert h;refine vg bw λ l hl h2 h3 h4 h=> ?_;refine aj (xR w.params hl) λ vs e1 e2=> ?_;refine nj (id r) λ os fr m X=> ?_;have g1:=X.F.keep _ _ (ok.K _ _ e1);have hlt:i.toNat<l.length:= (Int.toNat_lt (by lia)).mpr (by lia)
  have Wd:∀{vs:Lv} {l:Ll} {j:Nat} (hj:j<l.length),StrsAre vs (l.map λ x=>⟨x.toArray⟩)->∃t,vs[j]? =W6 (.str ⟨l[j].toArray⟩ t):=by
   intro vs l;induction l generalizing vs with
   | nil=>intro j hj;exact absurd hj (jH _)
   | cons x r ih=>
    intro j hj hs;cases hs with
    | cons _ t hr=>
     induction j with
     | zero=>exact⟨t,rfl⟩
     | succ j=>
      refine cv (ih (by simpa using hj) hr) λ t' q=> ?_
      exact⟨t',by simpa using q⟩
  refine cv (Wd hlt e2) λ t q=> ?_;have hsz:vs.size=l.length:=by have:=e2.length;simpa using this
  refine tail_any ⟨_,g1,rfl⟩ F.slot_tuple_getitem.lookup (getItem_tuple (items:=vs) (j:=i.toNat) ⟨_,g1,rfl,0,rfl⟩ (by lia) (by lia) ?_ (by rw[←Array.getElem?_toList];exact q) ?_) (mr he _ _)
  ·have hn: ¬ i<0:=by lia
   have:i<vs.size:=by lia
   simp[seqIndex?,hn,h2,this]
  ·have e:l.getD i.toNat []=l[i.toNat]:=by rw[dX,bP hlt];rfl
   rw[e]at h;exact⟨ads,σ, .st _,cN _,r,⟨t,rfl⟩,h⟩
def RO(ads:Ld)(v:az)(a:Option AV):Prop:=match a with
 | none=>v= .none
 | some a=>aU ads a v
theorem x_{a:Option AV}{lo:Option Int}(h:sf a=W6 lo)(hl:RO ads l a):IsPart l lo:=by
 induction a with
 | none=>(injection h with zq;subst zq);obtain rfl:l= .none:=hl;exact .none
 | some a=>
  cases a <;> first | cases h | skip
  obtain⟨t,rfl⟩:∃t,l= .int _ t:=hl;exact .int _ t
theorem yd:((min a b:Nat):Int)=min (a:Int) b:=by
 rcases Nat.le_total a b with h | h
 ·rw[o7 h,Int.min_eq_left (kB.mpr h)]
 ·rw[Nat.min_eq_right h,Int.min_eq_right (kB.mpr h)]
theorem ye(j n:Nat):max 0 (gy j+(n:Int))= ((n - (j+1):Nat):Int):=by
 rcases Nat.le_total (j+1) n with hh | hh
 ·rw[show gy j+(n:Int)= ((n - (j+1):Nat):Int) by lia];exact Int.max_eq_right (eV _)
 ·rw[Nat.sub_eq_zero_of_le hh];exact Int.max_eq_left (by lia)
theorem yf(n:Nat)(i:Int):clipAt n i=kms_lo (W6 i) n:=by
 induction i with
 | ofNat j=>
  have hj: ¬ ((j:Int)<0):=Int.not_lt.mpr (eV j);show (max 0 (min (if (j:Int)<0 then(j:Int)+n else(j:Int)) (n:Int))).toNat=if (j:Int)<0 then n - (-(j:Int)).toNat else min j n
  rw[if_neg hj,if_neg hj,←yd,Int.max_eq_right (eV _)];rfl
 | negSucc j=>
  have hj:=Int.negSucc_lt_zero j;show (max 0 (min (if gy j<0 then gy j+n else gy j) (n:Int))).toNat=if gy j<0 then n - (j+1) else _
  rw[if_pos hj,if_pos hj,Int.min_eq_left (by lia),ye];rfl
theorem HK(n:Nat)(i:Int):clipAt n i=kms_hi (W6 i) n:=yf n i
theorem qg{α:Type}{lo hi:Option Int}(xs:List α)(h:bB lo hi xs.length):(xs.drop (kms_lo lo xs.length)).take (kms_hi hi xs.length - kms_lo lo xs.length)=af lo hi xs:=by
 revert h;refine du λ h1 h2 _=> ?_;induction lo with
 | none=>
  induction hi with
  | none=>simp[kms_lo,kms_hi,af]
  | some j=>
   have h2:0<=j:=h2;simp only[kms_lo,kms_hi,af,if_neg (show ¬ j<0 by lia),List.drop_zero,Nat.sub_zero]
   exact kmk_take_min _ _
 | some i=>
  have h1:0<=i∨i<0/\hi=W7:=h1;induction hi with
  | none=>
   have e:kms_lo (W6 i) xs.length=min (bH i xs.length) xs.length:=by
    unfold kms_lo bH;induction i with
    | ofNat j=>
     have hn: ¬ (Int.ofNat j<0):=Int.not_lt.mpr (eV j);simp only[if_neg hn];rfl
    | negSucc j=>
     have:gy j<0:=Int.negSucc_lt_zero j;simp only[this,if_true];have:(-gy j).toNat=j+1:=rfl;simp
   show (xs.drop (kms_lo (W6 i) xs.length)).take (xs.length - kms_lo (W6 i) xs.length)=xs.drop (bH i xs.length);rw[List.take_of_length_le (by simp),e]
   exact kmk_drop_min _ _
  | some j=>
   have h2:0<=j:=h2;have hi0:0<=i:=by
    rcases h1 with h | ⟨_,h⟩
    ·exact h
    ·contradiction
   simp only[kms_lo,kms_hi,af,if_neg (show ¬ j<0 by lia),if_neg (show ¬ i<0 by lia)]
   rw[List.drop_take]
   by_cases e:i.toNat<=xs.length
   ·rw[o7 e]
    by_cases e2:j.toNat<=xs.length
    ·rw[o7 e2]
    ·rw[Nat.min_eq_right (show xs.length<=j.toNat by lia),List.take_of_length_le (by simp),List.take_of_length_le (by simp;lia)]
   ·rw[Nat.min_eq_right (show xs.length<=i.toNat by lia),oS (ba _),oS (show xs.length<=i.toNat by omega)];simp
theorem HL{lo hi:Option Int}(h:bB lo hi b.length):KBy.picked (cx b) lo hi=cx (af lo hi b):=by
 have hs:(cx b).size=b.length:=by unfold cx;simp
 have hl:(cx b).toList=b.map jJ:=by unfold cx;simp
 have e1:lo.elim 0 (clipAt (cx b).size)=kms_lo lo b.length:=by
  rw[hs];induction lo with
  | none=>rfl
  | some i=>exact yf _ _
 have e2:hi.elim (cx b).size (clipAt (cx b).size)=kms_hi hi b.length:=by
  rw[hs];induction hi with
  | none=>rfl
  | some i=>exact HK _ _
 rw[KBc.picked_eq,e1,e2,hl,←qg b h];unfold cx;rw[←List.map_drop,←List.map_take]
theorem HM{α:Type}{lo hi:Option Int}{xs:List α}{x:α}(h:x∈af lo hi xs):x∈xs:=by
 unfold af at h;induction lo <;> induction hi <;> simp only at h
 ·exact h
 ·exact lM h
 ·exact kn h
 ·exact lM (kn h)
theorem HO{α β:Type}{r:α->β->Prop}{xs:List α}{ys:List β}(h:aW r xs ys):aW r ((xs.drop a).take b) ((ys.drop a).take b):=by
 have d:∀{a:Nat} {xs:List α} {ys:List β},aW r xs ys->aW r (xs.drop a) (ys.drop a):=by
  intro a;induction a with
  | zero=>intro xs ys h;exact h
  | succ a ih=>intro xs ys h;induction h with
   | nil=>exact .nil
   | cons _ t=>exact ih t
 have k:∀{b:Nat} {xs:List α} {ys:List β},aW r xs ys->aW r (xs.take b) (ys.take b):=by
  intro b;induction b with
  | zero=>intro xs ys _;exact .nil
  | succ b ih=>intro xs ys h;induction h with
   | nil=>exact .nil
   | cons x t=>exact .cons x (ih t)
 exact k (d h)
theorem qh{lo hi:Option Int}{vs:Array az}(c:bk ads xs vs.toList)(h:bB lo hi xs.length):bk ads (af lo hi xs) (slicePick vs lo hi W7).toList:=by
 rw[kms_pick_eq];unfold kms_pick;rw[←c.len,←qg xs h];exact HO c
theorem sJ{α β:Type}(f:α->β){lo hi:Option Int}(xs:List α)(h:bB lo hi xs.length):af lo hi (xs.map f)= (af lo hi xs).map f:=by
 rw[←qg xs h,←qg (xs.map f) (by rw[dq];exact h),dq,List.map_take,List.map_drop]
theorem HP(h:0<=i∨i<0):Builtin.Str.strSliceIndices (W6 i) W7 1 n=Builtin.Str.strSliceIndices (W6 ((min (bH i n) n:Nat):Int)) (W6 (n:Int)) 1 n:=by
 have e:(max 0 (min (if i<0 then i+(n:Int) else i) (n:Int)):Int)= ((min (bH i n) n:Nat):Int):=by
  induction i with
  | ofNat j=>
   have: ¬ (Int.ofNat j<0):=Int.not_lt.mpr (eV j);rw[if_neg this];show max 0 (min (j:Int) n)= ((min j n:Nat):Int);rw[←yd];exact Int.max_eq_right (eV _)
  | negSucc j=>
   have:gy j<0:=Int.negSucc_lt_zero j;rw[if_pos this];show max 0 (min (gy j+n) n)= ((min (n - (j+1)) n:Nat):Int);rw[Int.min_eq_left (by lia),ye,o7 (Nat.sub_le _ _)]
 unfold Builtin.Str.strSliceIndices;simp only[show ((1:Int)>0)=True from by simp,if_true,e]
 rw[if_neg (show ¬ (((min (bH i n) n:Nat):Int)<0) by simp),if_neg (show ¬ ((n:Int)<0) by simp)]
 congr 1 <;> first | rw[Int.min_eq_left (kB.mpr (jG _ _)),Int.max_eq_right (eV _)] | rw[Int.min_eq_left (gg _),Int.max_eq_right (eV _)] | omega
theorem HQ{x:Ln}{i:Int}(h:bB (W6 i) W7 x.length):Txt.slice ⟨x.toArray⟩ (W6 i) W7=⟨(x.drop (bH i x.length)).toArray⟩:=by
 have hlen:(⟨x.toArray⟩:ab).length=x.length:=by show x.toArray.size=_;simp
 have hd:x.drop (bH i x.length)=x.drop (min (bH i x.length) x.length):=by
  by_cases e:bH i x.length<=x.length
  ·rw[o7 e]
  ·rw[Nat.min_eq_right (by lia),oS (by lia),oS (ba _)]
 have ha:min (bH i x.length) x.length<=x.length:=jG ..;unfold Txt.slice;rw[hlen,HP (Int.lt_or_le i 0).symm,hd]
 generalize min (bH i x.length) x.length=a at ha
 have h1:=StrLaws.sliced_plain ⟨x.toArray⟩ (a:=a) (b:=x.length) ha (by rw[hlen];exact ba _)
 rw[hlen]at h1;have h2:x.toArray.toList=x:=by simp
 rw[h1];show (if _ then(⟨x.toArray⟩:ab) else⟨((x.toArray.toList.drop a).take (x.length - a)).toArray⟩)=_
 rw[h2,List.take_of_length_le (by rw[gQ];exact ba _)]
 split
 ·rename_i c
  rw[StrLaws.strSliceIndices_plain ha (ba _)]at c;simp at c;have:a=0∨x= []:=by
   rcases Nat.eq_zero_or_pos a with h | h
   ·exact .inl h
   ·exact .inr (List.eq_nil_of_length_eq_zero (by lia))
  rcases this with rfl | rfl <;> simp
 ·rfl
theorem HR{a:AV}{lo hi:Option AV}{u l h':az}{e:Expr}{lo' hi':Option Expr}{p:Pos}(h:sg a lo hi σ Q)(ha:aU ads a u)(hl:RO ads l lo)(hh:RO ads h' hi){s:aw}(r:bK C ads σ s):
  aC (ag pw w) C.A (subscriptTail e (.Slice lo' hi' W7 p) u (.ref s.heap.objs.size)) (ee C ads RV Q) (dD C R) { s with heap:=s.heap.push { cls:= .type "slice",data:= .fields #[l,h', .none] } }:=by
 revert r;refine dk λ os fr m X=> ?_;revert h;refine cj bw λ lo TQ h=> ?_;revert h;refine cj bw λ hi hhi h=> ?_;have pl:=x_ TQ hl;have pu:=x_ hhi hh;induction a with
 | st b=>
  revert ha;refine dw λ t SY=> ?_;subst SY;obtain⟨i,rfl,rfl,h1,h⟩:=bw h;cases pl;cases pu;refine slice_strN_sn X.F (news:=ads.zip os++fr) X.N (λ H t2 k F' N'=> ?_) rfl (λ r=>by cases e <;> rfl) (by have:=h1.2.2;show b.toArray.size<=_;rw[gT];simp;omega)
  rw[HQ h1];exact⟨ads,σ, .st _,cN _,⟨os,fr,m,X.hgens,X.hdrawn,X.hos,F',X.loc,N',X.len,X.objs,X.nd,X.frs,X.ini⟩,⟨t2,rfl⟩,h⟩
 | by_ b=>
  revert ha;refine nh λ hb t zq2=> ?_;subst zq2;revert h;refine bF λ h1 h=> ?_;have hlen:(KBw.bInts (cx b)).length<=16777216:=by
   have:=h1.2.2;rw[KBw.ints_length];unfold cx;simp;omega
  refine KBc.slice_K X.F (news:=ads.zip os++fr) X.N rfl pl pu hlen (λ H t2 k F' N' _=> ?_) rfl (λ r=>by cases e <;> rfl)
  rw[HL h1];exact⟨ads,σ, .by_ _,cN _,⟨os,fr,m,X.hgens,X.hdrawn,X.hos,F',X.loc,N',X.len,X.objs,X.nd,X.frs,X.ini⟩,⟨λ x hx=>hb x (HM hx),t2,rfl⟩,h⟩
 | ob k=>
  revert ha;refine b7 λ ax hax zq2=> ?_;subst zq2;revert h;refine cj bw λ o hk h=> ?_;refine cO (dZ X hax hk) λ ob _ r1 g1=> ?_;have go:∀{vs:Array az} {n c:Nat} {ao:AO},s.heap.get? ax=W6 (W.listOf vs n)->vs.size=c->c<=1048576->(∀ads',ads <+:ads'->cy ads' ao (W.listOf (slicePick vs lo hi W7) 0))->Q (.ob σ.objs.length) ⟨σ.loc,σ.objs++ [ao]⟩->
    aC (ag pw w) C.A (subscriptTail e (.Slice lo' hi' W7 p) (.ref ax) (.ref s.heap.objs.size)) (ee C ads RV Q) (dD C R) { s with heap:=s.heap.push { cls:= .type "slice",data:= .fields #[l,h', .none] } }:=λ {vs n c ao} g hc hz hr hq=>by
   have hl:s.heap.IsList ax vs:=⟨_,g,rfl,n,rfl⟩;refine tail_any (bS.IsList.typeIs (s:={ s with heap:=s.heap.push { cls:= .type "slice",data:= .fields #[l,h', .none] } }) (hl.push _)) list_getitem_lookup
    (wpAny_getItem_list_slice (hl.push _) (bS.IsSliceOf.new ..) pl pu .none (by simp) ?_ (by rw[gT];omega)) rfl
   have Z:= (X.junk { cls:= .type "slice",data:= .fields #[l,h', .none] } s.toks).push (tk:=s.toks) (ao:=ao) (o:=W.listOf (slicePick vs lo hi W7) 0) rfl (hr _ (c9 _ _));refine⟨ads++ [(s.heap.push { cls:= .type "slice",data:= .fields #[l,h', .none] }).objs.size],_, .ob σ.objs.length,c9 _ _,⟨_,fr,m,Z⟩,⟨_, ?_,rfl⟩,hq⟩;rw[X.objs.len,X.len];simp
  induction o with
  | lst xs=>
   revert r1;refine c7 λ vs n zq2 c=> ?_;subst zq2;revert h;refine bF λ h1 h=> ?_;exact go (ao:= .lst _) g1 (by rw[c.len];simp) h1.2.2 (λ ads' hp=>⟨_,0,rfl,qh (c.mono hp) h1⟩) h
  | lstS xs=>
   revert r1;refine c7 λ vs n zq2 c=> ?_;subst zq2;revert h;refine bF λ h1 h=> ?_;refine go (ao:= .lstS _) g1 (by have:=c.len;simpa using this.symm) h1.2.2 (λ ads' hp=>⟨_,0,rfl, ?_⟩) h
   rw[←sJ _ _ h1];exact qh (c.mono hp) (by rw[dq];exact h1)
  | lstI xs=>
   revert r1;refine c7 λ vs n zq2 c=> ?_;subst zq2;revert h;refine bF λ h1 h=> ?_;refine go (ao:= .lstI _) g1 (by have:=c.len;simpa using this.symm) h1.2.2 (λ ads' hp=>⟨_,0,rfl, ?_⟩) h
   rw[←sJ _ _ h1];exact qh (c.mono hp) (by rw[dq];exact h1)
  | lstR xs o'=>
   revert r1;refine uX λ Tj vs n Tp c=> ?_;subst Tj;subst Tp;revert h;refine bF λ h1 h=> ?_;refine go (ao:= .lstI _) g1 (by have:=c.len;simpa using this.symm) h1.2.2 (λ ads' hp=>⟨_,0,rfl, ?_⟩) h
   rw[←sJ _ _ h1];exact qh (c.mono (List.nil_prefix)) (by rw[dq];exact h1)
  | _=>exact aF h
 | _=>exact aF h
theorem HS{vs:Array az}(h:bk ads xs vs.toList)(hv:aU ads v u):bk ads (xs.set j v) (vs.setIfInBounds j u).toList:=by
 have:=h.set hv j;rw[Array.toList_setIfInBounds];exact this
theorem HT{Q:AS->Prop}(h:sh a i v σ Q)(ha:aU ads a u)(hi:aU ads i ui)(hv:aU ads v uv):WA w C ads σ (setItem u ui uv) (λ _ _ (_:Unit)=>True) (λ _ σ'=>Q σ') R:=by
 rintro s ⟨os,fr,m,X⟩
 induction a <;> first | exact aF h | skip
 induction i <;> first | exact aF h | skip
 rename_i k j;revert h;refine cj bw λ o hk h=> ?_;induction o <;> first | exact aF h | skip
 rename_i xs;revert h;refine fq λ h0 h1 h2 h=> ?_;refine il (X.obj hk) λ ax o e1 e2 zq4 e4 _=> ?_;revert zq4;refine c7 λ vs n zq2 hc=> ?_;subst zq2;revert ha;refine b7 λ ax' e5 zq2=> ?_;subst zq2;rw[e1]at e5;obtain rfl:=bQ e5;revert hi;refine dw λ t SY=> ?_;subst SY;have hlen:xs.length=vs.size:=by rw[hc.len];simp
 refine ki_setAt e4 h0 (by lia) (by rw[←hlen];exact h1) ?_
 refine⟨ads,_,(),cN _,⟨_,fr,m,X.upd (tk:=s.toks) (f:=Obj.mapSeq (·.setIfInBounds j.toNat uv)) (o':=W.listOf (vs.setIfInBounds j.toNat uv) n) (ao:= .lst (xs.set j.toNat v)) e1 e2 ?_ rfl ⟨_,_,rfl,HS hc hv⟩⟩,trivial,h⟩;show Obj.mapSeq _ { cls:=_,data:=_ }=_;unfold Obj.mapSeq;simp
def yg(C:Cx)(s:aw):Prop:=C.hdl=W7∨∃h dx vs,C.hdl=W6 (.ref h)/\s.heap.get? h=W6 (gV dx vs)/\wM vs
theorem HU(fc:FC w F C)(h:quiet F σ=W8){s:aw}{os:Lo}{fr:Tf}{m:Tm}(X:aE C ads σ s os fr m):yg C s:=by
 unfold quiet at h;refine cF (b:=F.calm) (λ hc=> ?bt) λ hc=> ?bf
 case bt=>exact .inl (fc.calm hc)
 case bf=>
  rw[hc]at h;simp only at h;refine cL (o:=F.hid) (λ hk=> ?on) λ k hk=> ?os
  case on=>rw[hk]at h;contradiction
  case os=>
   rw[hk]at h;simp only at h;refine cL (o:=σ.objs[k]?) (λ ho=> ?on) λ o ho=> ?os
   case on=>rw[ho]at h;contradiction
   case os=>
    rw[ho]at h;cases o <;> first | cases h | skip
    refine aj (fc.hid k hk) λ a e1 e2=> ?_;refine cO (dZ X (dB X.ini e1) ho) λ ob _ zq2 g=> ?_;revert zq2;refine lQ λ dx vs U2 Tp h6=> ?_;subst Tp;exact .inr ⟨a,dx,vs,e2,g,h6⟩
theorem HV{id:String}{q:Bool}{vs:List AV}{us:Lv}(hq:∀{s os fr m},q=W8->aE C ads σ s os fr m->yg C s)(h:pR id q vs σ Q)(ha:bk ads vs us):WA w C ads σ (call (.builtin id) us) RV Q R:=by
 intro s r;cases vs with
 | nil=>exact aF h
 | cons v rest=>
 cases rest with
 | nil=>
  cases ha with
  | cons x y=>
   cases y;cases v <;> first | exact aF h | skip
   all_goals (delta pR at h;dsimp only at h)
   ·rename_i i
    revert x;refine dw λ t SY=> ?_;subst SY;refine cF (b:=id== "chr") (λ hi=> ?bt) λ hi=> ?bf
    case bt=>
     rw[hi]at h;rw[beq_iff_eq.mp hi];exact chr_of_range h.1 h.2.1 (qd (x:= [i.toNat]) r h.2.2)
    case bf=>
     rw[hi]at h;revert h;refine cK bA λ hi h=> ?_;rw[beq_iff_eq.mp hi];exact call_abs_int λ u tk=>gH r h
   ·rename_i x'
    revert x;refine dw λ t SY=> ?_;subst SY;have hl:(⟨x'.toArray⟩:ab).length=x'.length:=by show x'.toArray.size=_;simp
    refine cF (b:=id== "len") (λ hi=> ?bt) λ hi=> ?bf
    case bt=>
     rw[hi]at h;rw[beq_iff_eq.mp hi];refine SBL.len (by rw[hl];have:=h.1;lia) ?_
     rw[hl];exact gH r h.2
    case bf=>
     rw[hi]at h;revert h;refine cK bA λ hi h=> ?_;rw[beq_iff_eq.mp hi];refine ord_of_one (by rw[hl];exact h.1) ?_
     have:(⟨x'.toArray⟩:ab).cps.getD 0 0=x'.getD 0 0:=by
      show x'.toArray.getD 0 0=_;cases x' <;> simp
     rw[this];exact gH r h.2
   ·rename_i b
    revert h;refine cK bA λ hi h=> ?_;rw[beq_iff_eq.mp hi];revert x;refine nh λ hb t zq2=> ?_;subst zq2;refine len_bytes (by rw[mq];have:=h.1;lia) ?_
    rw[mq];exact gH r h.2
   ·rename_i k
    revert h;refine cK bA λ hi h=> ?_;rw[beq_iff_eq.mp hi];revert h;refine cj bw λ S hS h=> ?_;revert h;refine cK bA λ hL h=> ?_;revert hS;refine cj bO.mp λ ao hk hS=> ?_;revert x;refine b7 λ ax hax zq2=> ?_;subst zq2;refine nj (_root_.id r) λ os fr m X=> ?_;refine cO (dZ X hax hk) λ o _ r1 g1=> ?_;refine lR (x9 hS r1) λ xs vs n ho hc hlen _=> ?_;rw[hL]at ho;subst ho;have hsz:vs.size=S.len:=by rw[←hlen,hc.len];simp
    refine len_list (items:=vs) ⟨_,g1,rfl,n,rfl⟩ (by rw[hsz];have:=h.1;lia) ?_
    rw[hsz];exact gH r h.2
 | cons v2 rest=>
  cases rest with
  | cons _ _=>cases v <;> first | exact aF h | (cases v2 <;> exact aF h)
  | nil=>
  cases v <;> cases v2 <;> first | exact aF h | skip
  delta pR at h;cases ha with
  | cons x y=>
   cases y with
   | cons x' y=>
    cases y;revert x;refine dw λ t SY=> ?_;subst SY;revert x';refine dw λ t' SY=> ?_;subst SY;revert h;refine cK bA λ hc h=> ?_;revert r;refine dk λ os fr m X=> ?_;have Z:=hq hc X;have fin:∀(h':bS) (tk:Nat) (i:Int) (t:Tok),Fr C.g C.L h' m->News C.g C.L h' (ads.zip os++fr)->Q (.num i) σ->ee C ads RV Q (.int i t) { s with heap:=h',toks:=tk }:=λ h' tk i t F' N' hq=>
     ⟨ads,σ, .num i,cN _,⟨os,fr,m,X.hgens,X.hdrawn,X.hos,F',X.loc,N',X.len,X.objs,X.nd,X.frs,X.ini⟩,⟨t,rfl⟩,hq⟩
    refine cF (b:=id== "min") (λ hi=> ?bt) λ hi=> ?bf
    case bt=>
     rw[hi]at h;rw[beq_iff_eq.mp hi];rcases Z with hh | Z
     ·exact min_two_N hh X.F X.N λ h' tk F' N'=>fin h' tk _ _ F' N' h
     ·revert Z
      refine gi λ ha dx us e2 g h6=> ?_;exact Fq e2 g rfl h6.2 λ h' tk hk=>fin h' tk _ _ (X.off (h':=h') (tk:=tk) λ b o hb _=>hk b o hb).F (X.off (h':=h') (tk:=tk) λ b o hb _=>hk b o hb).N h
    case bf=>
     rw[hi]at h;revert h;refine cK bA λ hi h=> ?_;rw[beq_iff_eq.mp hi];rcases Z with hh | Z
     ·exact max_two_N hh X.F X.N λ h' tk F' N'=>fin h' tk _ _ F' N' h
     ·revert Z
      refine gi λ ha dx us e2 g h6=> ?_;exact Fp e2 g rfl h6.2 λ h' tk hk=>fin h' tk _ _ (X.off (h':=h') (tk:=tk) λ b o hb _=>hk b o hb).F (X.off (h':=h') (tk:=tk) λ b o hb _=>hk b o hb).N h
theorem HW{id:String}{calm:Bool}{us:Lv}(TT:vs≠ [])(S8:calm=W8->C.hdl=W7)(h:pS id calm vs σ Q)(ha:bk ads vs us):WA w C ads σ (call (.type id) us) RV Q R:=by
 intro s r;induction vs using gS with
 | nil=>exact(TT rfl).elim
 | cons v r'=>
 induction r' using gS with
 | cons _ _=>exact aF h
 | nil=>
  delta pS at h;cases ha with
  | cons x y=>
   cases y;induction v <;> first | exact aF h | skip
   ·rename_i i
    revert x;refine dw λ t SY=> ?_;subst SY;refine cF (b:=id== "int") (λ hi=> ?bt) λ hi=> ?bf
    case bt=>
     rw[hi]at h;rw[beq_iff_eq.mp hi];exact call_int_int (gH (tk:=s.toks) r h)
    case bf=>
     rw[hi]at h;revert h;refine CT bA λ hi h0 h1 h=> ?_;rw[beq_iff_eq.mp hi];revert r;refine dk λ os fr m X=> ?_;refine call_range_1 ?_;have e:(az.int i t)= .int (i.toNat:Int) t:=by congr 1;omega
     rw[e];refine⟨ads++ [s.heap.objs.size],_, .ob σ.objs.length,c9 _ _,⟨_,_,_,X.push (tk:=s.toks+1+1) (ao:= .rng i.toNat) (o:=wH i.toNat s.toks t (s.toks+1)) rfl ⟨_,_,_,rfl⟩⟩,⟨s.heap.objs.size, ?_,rfl⟩,h⟩;rw[X.objs.len,X.len];simp
   ·rename_i k
    revert x;refine b7 λ ax hax zq2=> ?_;subst zq2;have r':=r;revert r';refine dk λ os fr m X=> ?_;have fU:∀{ao:AO} {vs:Array az} {n:Nat},s.heap.get? ax=W6 (W.listOf vs n)->vs.size<=1048576->(∀ads',ads <+:ads'->cy ads' ao (iK vs 0))->Q (.ob σ.objs.length) ⟨σ.loc,σ.objs++ [ao]⟩->
      aC (ag pw w) C.A (call (.type "tuple") [.ref ax]) (ee C ads RV Q) (dD C R) s:=λ {ao vs n} hl hs hr hq=>by
     refine call_tuple_list (items:=vs) ⟨_,hl,rfl,n,rfl⟩ (λ h' hk=> ?_) (by rw[gT];omega)
     have Y:=X.off (h':=h') (tk:=s.toks) λ b o hb _=>hk b o hb;have Z:=Y.push (tk:=s.toks) (ao:=ao) (o:=iK vs 0) rfl (hr _ (c9 _ _));refine⟨ads++ [h'.objs.size],_, .ob σ.objs.length,c9 _ _,⟨_,_,_,Z⟩,⟨h'.objs.size, ?_,rfl⟩,hq⟩;rw[X.objs.len,X.len];simp
    revert h;refine cj bw λ o hk h=> ?_;refine cO (dZ X hax hk) λ ob _ r1 e=> ?_;induction o <;> first | exact aF h | skip
    ·revert h;refine fT bA λ hi h1 h=> ?_
     rw[beq_iff_eq.mp hi];revert r1;refine c7 λ vs n zq2 hc=> ?_;subst zq2;exact fU (ao:= .tup _) e (by have:=hc.len;simp at this;omega) (λ ads' hp=>⟨vs,0,rfl,hc.mono hp⟩) h
    ·revert h;refine fT bA λ hi h1 h=> ?_
     rw[beq_iff_eq.mp hi];revert r1;refine c7 λ vs n zq2 hc=> ?_;subst zq2;exact fU (ao:= .tupS _) e (by have:=hc.len;simp at this;omega) (λ ads' hp=>⟨vs,0,rfl,hc.mono hp⟩) h
    ·rename_i xs
     have hh:=fG h;revert hh;refine uT λ hi Wb h1 h2 h=> ?_;rw[beq_iff_eq.mp hi];revert r1;refine c7 λ vs n zq2 hc=> ?_;subst zq2;have hlen:=hc.len;rw[dq]at hlen;refine call_bytes_ints (vs:=vs.toList) ⟨_,e,rfl,n,by simp⟩ (sG hc) h2 (by rw[gT];omega) (S8 Wb) λ h' t k' UR=> ?_
     have eb:byteArr xs=cx (xs.map au):=by unfold byteArr cx;rw[List.map_map];rfl
     rw[eb];refine⟨ads,σ, .by_ _,cN _,⟨os,fr,m,X.off λ b o hb _=>UR b o hb⟩,⟨λ a ha=> ?_,t,rfl⟩,h⟩;refine aj (cZ.mp ha) λ i hi' zq2=> ?_;subst zq2;have:=h2 i hi'
     omega
    ·revert h;refine cK bA λ hi h=> ?_
     rw[beq_iff_eq.mp hi];revert r1;refine c7 λ vs n zq2 hc=> ?_;subst zq2;exact call_tuple_tup (items:=vs) ⟨_,e,rfl,n,rfl⟩ ⟨ads,σ, .ob k,cN _,r,⟨ax,hax,rfl⟩,h⟩
    ·revert h;refine cK bA λ hi h=> ?_
     rw[beq_iff_eq.mp hi];revert r1;refine c7 λ vs n zq2 hc=> ?_;subst zq2;exact call_tuple_tup (items:=vs) ⟨_,e,rfl,n,rfl⟩ ⟨ads,σ, .ob k,cN _,r,⟨ax,hax,rfl⟩,h⟩
    ·revert h;refine fT bA λ hi h1 h=> ?_
     rw[beq_iff_eq.mp hi];revert r1;refine bF λ Wf SY=> ?_;subst SY;refine Hq (b:=cx _) e (by rw[mq,gT];omega) λ t k'=> ?_
     exact⟨ads,σ, .by_ _,cN _,r.toks _,⟨Wf,t,rfl⟩,h⟩
theorem HX{id:String}{calm:Bool}{us:Lv}(S8:calm=W8->C.hdl=W7)(h:pS id calm vs σ Q)(ha:bk ads vs us):W w C ads σ (call (.type id) us) RV Q R:=by
 induction vs with
 | cons v vs=>exact(HW (by intro q;contradiction) S8 h ha).toG
 | nil=>
  intro s r;cases ha;refine aI (bA (show aG (id== "bytearray") (Q (.ob σ.objs.length) ⟨σ.loc,σ.objs++ [.bar []]⟩) from h)) λ hi h=> ?_
  rw[beq_iff_eq.mp hi];revert r;refine dk λ os fr m X=> ?_;refine He ?_;have X1:=X.push (tk:=s.toks) (ao:= .bar []) (o:=eY #[]) rfl ⟨(λ x hx=>nomatch hx),rfl⟩
  have VP:(ads++ [s.heap.objs.size])[σ.objs.length]? =W6 s.heap.objs.size:=by rw[X.objs.len,X.len];simp
  have hn:os.length=σ.objs.length:=X.objs.len.symm;have X2:=X1.upd (tk:=s.toks) (k:=σ.objs.length) (f:=m9 λ _=> #[]) (o:=eY #[]) (o':=eY #[]) (ao:= .bar []) VP (by rw[←hn];simp) rfl rfl ⟨(λ x hx=>nomatch hx),rfl⟩
  refine⟨ads++ [s.heap.objs.size],_, .ob σ.objs.length,c9 _ _,⟨_,_,_,X2⟩,⟨s.heap.objs.size,VP,rfl⟩, ?_⟩;have:(σ.objs++ [AO.bar []]).set σ.objs.length (.bar [])=σ.objs++ [.bar []]:=by simp
  show Q _ ⟨σ.loc,(σ.objs++ [AO.bar []]).set σ.objs.length (.bar [])⟩;rw[this];exact h
theorem sL{vs:Array az}(h:bk ads xs vs.toList)(hv:aU ads v u):bk ads (xs++ [v]) (vs.push u).toList:=by
 rw[Array.toList_push];exact h.append (.cons hv .nil)
theorem HY(h1:fF ao=W6 xs)(h2:kS ao v=W6 Vx){vs:Array az}(hc:bk ads xs vs.toList)(hv:aU ads v u):cy ads Vx (listOf (vs.push u) n):=by
 induction ao <;> first | (injection h1;done) | skip
 ·(injection h1 with zq;subst zq);(injection h2 with zq;subst zq);exact⟨_,_,rfl,sL hc hv⟩
 ·injection h1 with zq;subst zq
  induction v <;> first | (injection h2;done) | skip
  injection h2 with zq;subst zq
  refine⟨_,_,rfl, ?_⟩;rw[eJ];exact sL hc hv
 ·injection h1 with zq;subst zq
  induction v <;> first | (injection h2;done) | skip
  injection h2 with zq;subst zq
  refine⟨_,_,rfl, ?_⟩;rw[eJ];exact sL hc hv
theorem yh:∀ys:List (List Nat),(dK (λ x=>x.length) (ys.map λ x=>(⟨x.toArray⟩:ab))).sum=bq ys
 | []=>rfl
 | y::r=>by
  rw[eW,eW,List.sum_cons,yh r];show y.toArray.size+_=y.length+_;simp
theorem HZ(ys:Ll):Txt.join ⟨#[]⟩ (ys.map λ x=>⟨x.toArray⟩)=⟨ys.flatten.toArray⟩:=by
 have core:∀ys:List (List Nat),ab.join ⟨#[]⟩ (ys.map λ x=>⟨x.toArray⟩)=⟨ys.flatten.toArray⟩:=by
  intro ys;induction ys with
  | nil=>rfl
  | cons x r ih=>
   induction r with
   | nil=>simp[ab.join]
   | cons y r=>
    rw[eW]at ih ⊢
    rw[eW];unfold ab.join;rw[ih];show ab.mk ((x.toArray++ #[])++(y::r).flatten.toArray)=_;simp
 show PySem.Builtin.Str.glued _ _=_;rw[StrLaws.glued_eq_join];exact core ys
theorem H0(h:nG x=W6 l):Txt.split ⟨x.toArray⟩ ⟨#[32]⟩=l.map λ x=>⟨x.toArray⟩:=by
 unfold nG at h;refine cF (b:=aR x ("FAST ALL FULL" :ab).cps.toList) (λ h1=> ?bt) λ h1=> ?bf
 case bt=>rw[h1]at h;(injection h with zq;subst zq);rw[fW h1];kernel_rfl
 case bf=>
  rw[h1]at h;simp only at h;refine cF (b:=aR x ("RFC822 RFC822.HEADER RFC822.TEXT" :ab).cps.toList) (λ h2=> ?bt) λ h2=> ?bf
  case bt=>rw[h2]at h;(injection h with zq;subst zq);rw[fW h2];kernel_rfl
  case bf=>
   rw[h2]at h;simp only at h;refine cF (b:=aR x ("FLAGS UID INTERNALDATE RFC822.SIZE ENVELOPE BODY BODYSTRUCTURE MODSEQ" :ab).cps.toList) (λ h3=> ?bt) λ h3=> ?bf
   case bt=>rw[h3]at h;(injection h with zq;subst zq);rw[fW h3];kernel_rfl
   case bf=>rw[h3]at h;contradiction
theorem yi:∀{l:Ll} {p:List (ab×Tok)},p.map (·.1)=l.map (λ x=>(⟨x.toArray⟩:ab))->bk ads (l.map .st) (strValues p)
 | [], [],_=> .nil
 | [],_::_,h=>by contradiction
 | _::_, [],h=>by contradiction
 | x::l,(y,t)::p,h=>by
  have h:y::p.map (·.1)=⟨x.toArray⟩::l.map (λ x=>(⟨x.toArray⟩:ab)):=h;injection h with h1 h2
  subst h1;exact .cons ⟨t,rfl⟩ (yi h2)
theorem H3(h:nG x=W6 l):x.length<=100:=by
 unfold nG at h;refine cF (b:=aR x ("FAST ALL FULL" :ab).cps.toList) (λ h1=> ?bt) λ h1=> ?bf
 case bt=>rw[fW h1];decide+kernel
 case bf=>
  rw[h1]at h;simp only at h;refine cF (b:=aR x ("RFC822 RFC822.HEADER RFC822.TEXT" :ab).cps.toList) (λ h2=> ?bt) λ h2=> ?bf
  case bt=>rw[fW h2];decide+kernel
  case bf=>
   rw[h2]at h;simp only at h;refine cF (b:=aR x ("FLAGS UID INTERNALDATE RFC822.SIZE ENVELOPE BODY BODYSTRUCTURE MODSEQ" :ab).cps.toList) (λ h3=> ?bt) λ h3=> ?bf
   case bt=>rw[fW h3];decide+kernel
   case bf=>rw[h3]at h;contradiction
theorem H4{id:String}{us:Lv}(TT:id≠ "bytearray.append")(ok:bc w mg mb bud C)(h:sj id a vs σ Q)(ha:aU ads a u)(hv:bk ads vs us):WA w C ads σ (call (.builtin id) ([u]++us)) RV Q R:=by
 intro s r;cases hv with
 | nil=>
  cases a <;> first | exact aF h | skip
  rename_i x;revert h;refine fT bA λ hi h1 h=> ?_;rw[beq_iff_eq.mp hi];revert ha;refine dw λ t SY=> ?_;subst SY;have hl:(⟨x.toArray⟩:ab).length=x.length:=by show x.toArray.size=_;simp
  refine SCL.lower (by rw[hl];lia) λ _=> ?_
  exact⟨ads,σ, .st (Txt.lower ⟨x.toArray⟩).cps.toList,cN _,r.toks _,⟨_,rfl⟩,h _⟩
 | @cons v uv _ _ x y=>
  cases y with
  | cons _ _=>exact aF h
  | nil=>
   cases a <;> first | exact aF h | skip
   ·rename_i z
    revert ha;refine dw λ t SY=> ?_;subst SY;cases v <;> first | exact aF h | skip
    ·rename_i y
     have hh:=fG h;revert hh;refine du λ hi hz h=> ?_;rw[beq_iff_eq.mp hi];revert x;refine dw λ t' SY=> ?_;subst SY;rw[fW hz];revert h;refine cj bw λ l hl h=> ?_;revert r;refine dk λ os fr m X=> ?_;have hlen:(⟨z.toArray⟩:ab).length=z.length:=by show z.toArray.size=_;simp
     refine splitN1 X.F X.N (by decide) (λ p h' k hp F' N'=> ?_) (by rw[hlen,gT];have:=H3 hl;lia)
     have hp:p.map (·.1)=l.map λ x=>(⟨x.toArray⟩:ab):=hp.trans (H0 hl);have Y:=X.add (tk:=k) (o:={ cls:= .type "list",data:= .seq (strValues p).toArray }) (ao:= .lstS l) F' N' (by rw[←X.keys];exact wN X.fresh) ⟨_,0,rfl,by simpa using yi hp⟩
     refine⟨ads++ [s.heap.objs.size],_, .ob σ.objs.length,c9 _ _,⟨_,_,_,Y⟩,⟨s.heap.objs.size, ?_,rfl⟩,h⟩;rw[X.objs.len,X.len];simp
    ·rename_i k
     have hh:=fG h;revert hh;refine du λ hi hz hj=> ?_;rw[beq_iff_eq.mp hi];revert x;refine b7 λ ax hax zq2=> ?_;subst zq2;have hz':z= []:=List.eq_nil_of_length_eq_zero (dc hz);subst hz';refine cO (bw hj) λ ys UZ h1 h=> ?_;revert UZ;refine cj bO.mp λ ao hk UZ=> ?_;have r':=r;revert r';refine dk λ os fr m X=> ?_;refine cO (dZ X hax hk) λ ob _ r1 e4=> ?_;have go:∀{ws:Array az} {n:Nat},s.heap.get? ax=W6 (W.listOf ws n)->bk ads (ys.map .st) ws.toList->aC (ag pw w) C.A (call (.builtin "str.join") ([.str ⟨([]:Ln).toArray⟩ t]++ [.ref ax])) (ee C ads RV Q) (dD C R) s:=λ {ws n} e4 hc=>by
      refine join_listW (items:=ws) (ys:=ys.map λ x=>⟨x.toArray⟩) ⟨_,e4,rfl,n,rfl⟩ (nU hc) (Nat.zero_le _) (by rw[yh,dq];exact h1) λ t' k'=> ?_
      have:Txt.join ⟨([]:Ln).toArray⟩ (ys.map λ x=>⟨x.toArray⟩)=⟨ys.flatten.toArray⟩:=HZ ys;rw[this];exact qd r h
     cases ao <;> first | cases UZ | skip
     ·revert r1
      refine c7 λ ws n zq2 hc=> ?_;subst zq2;rw[l0 UZ]at hc;exact go e4 hc
     ·revert r1
      refine c7 λ ws n zq2 hc=> ?_;subst zq2;exact go e4 hc
   ·rename_i k
    revert ha;refine b7 λ ax hax zq2=> ?_;subst zq2;refine cF (b:=id== "list.append") (λ hi=> ?bt) λ hi=> ?bf
    case bt=>
     have h':aJ (σ.objs[k]?) λ o=>aJ (l8 o) λ S=>S.len<=1048576/\aJ (kS o v) λ o'=>Q .non ⟨σ.loc,σ.objs.set k o'⟩:=by
      have h:(match id== "list.append" with
       | true=>aJ (σ.objs[k]?) λ o=>aJ (l8 o) λ S=>S.len<=1048576/\aJ (kS o v) λ o'=>Q .non ⟨σ.loc,σ.objs.set k o'⟩
       | false=>_):=h
      rw[hi]at h;exact h
     rw[beq_iff_eq.mp hi];revert r;refine dk λ os fr m X=> ?_;refine aj (bw h') λ o hk h=> ?_;revert h;refine ve bw λ S hS h1 h=> ?_;revert h;refine cj bw λ o' UQ h=> ?_;refine cO (dZ X hax hk) λ ob e2 e3 e4=> ?_;have core:∃xs ws n,fF o=W6 xs/\ob=W.listOf ws n/\bk ads xs ws.toList/\xs.length=S.len:=by
      cases o <;> first | cases UQ | skip
      ·obtain⟨ws,n,rfl,c⟩:=e3;(injection hS with zq;subst zq);exact⟨_,ws,n,rfl,rfl,c,rfl⟩
      ·obtain⟨ws,n,rfl,c⟩:=e3;(injection hS with zq;subst zq);exact⟨_,ws,n,rfl,rfl,c,by simp⟩
      ·obtain⟨ws,n,rfl,c⟩:=e3;(injection hS with zq;subst zq);exact⟨_,ws,n,rfl,rfl,c,by simp⟩
     revert core;refine gU λ xs ws n hxs zq4 hc hlen=> ?_;subst zq4;refine append_K X.F X.N (xY hax e2 X.len X.nd) (λ h' F' N'=> ?_) (by have:=hc.len;simp at this;rw[gT];lia)
     exact⟨ads,_, .non,cN _,⟨_,fr,m,X.upd' (tk:=s.toks) F' N' (HY hxs UQ hc x)⟩,rfl,h⟩
    case bf=>
     have h':aG (id== "bytearray.append") (aJ ((σ.objs[k]?).bind pT) λ b=>aJ (ir v) λ i=>0<=i/\i<256/\b.length<=1048576/\Q .non ⟨σ.loc,σ.objs.set k (.bar (b++ [i.toNat]))⟩):=by
      have h:(match id== "list.append" with
       | true=>_
       | false=>aG (id== "bytearray.append") (aJ ((σ.objs[k]?).bind pT) λ b=>aJ (ir v) λ i=>0<=i/\i<256/\b.length<=1048576/\Q .non ⟨σ.loc,σ.objs.set k (.bar (b++ [i.toNat]))⟩)):=h
      rw[hi]at h;exact h
     refine aI (bA h') λ hi h=> ?_;exact(TT (beq_iff_eq.mp hi)).elim
theorem H5{id:String}{us:Lv}(ok:bc w mg mb bud C)(h:sj id a vs σ Q)(ha:aU ads a u)(hv:bk ads vs us):W w C ads σ (call (.builtin id) ([u]++us)) RV Q R:=by
 by_cases hid:id= "bytearray.append"
 ·subst hid
  intro s r;cases hv with
  | nil=>
   cases a <;> exact aF h
  | @cons v uv _ _ x y=>
   cases y with
   | cons _ _=>exact aF h
   | nil=>
    cases a <;> first | exact aF h | skip
    ·cases v <;> exact aF h
    ·rename_i k
     revert ha;refine b7 λ ax hax zq2=> ?_;subst zq2;have h':aJ ((σ.objs[k]?).bind pT) λ b=>aJ (ir v) λ i=>0<=i/\i<256/\b.length<=1048576/\Q .non ⟨σ.loc,σ.objs.set k (.bar (b++ [i.toNat]))⟩:=h;refine aj (bw h') λ b hb h=> ?_;refine uZ (bw h) λ i hi h0 h1 hsz hQ=> ?_;revert hb;refine cj bO.mp λ ao hk hb=> ?_;cases ao <;> first | cases hb | skip
     cases v <;> first | cases hi | skip
     revert x;refine dw λ t SY=> ?_;subst SY;revert r;refine dk λ os fr m X=> ?_;refine cO (dZ X hax hk) λ o e0 zq2 g1=> ?_;revert zq2;refine bF λ Wf SY=> ?_;subst SY;have eo:(cx b).push i.toNat.toUInt8=cx (b++ [i.toNat]):=by unfold cx;simp
     refine Hi (b:=cx b) g1 h0 h1 (by rw[mq,gT];lia) ?_
     have X2:=X.upd (tk:=s.toks) (f:=m9 (·.push i.toNat.toUInt8)) (o':=eY (cx (b++ [i.toNat]))) (ao:= .bar (b++ [i.toNat])) hax e0 (by rw[←eo];rfl) rfl ⟨λ x hx=> ?_,rfl⟩
     ·exact⟨ads,_, .non,cN _,⟨_,fr,m,X2⟩,rfl,hQ⟩
     ·rcases bV.mp hx with hx | hx
      ·exact Wf x hx
      ·rw[dI.mp hx];lia
 ·exact(H4 hid ok h ha hv).toG
end
end
section
open PySem.Calls
section
variable{w:aQ}{mg mb:Tm}{C:Cx}{ads:Ld}{σ:AS}{bud:Nat}{F:Cf}{Q:Ta}{R:Tn}
theorem H6(T:TopRead p l mg mb h)(k:h.StaysIn h'):TopRead p l mg mb h':=
 ⟨T.g.at' λ o e=>k _ _ e,T.b.at' λ o e=>k _ _ e,T.nolimit.keeps k,T.builtins,T.free⟩
theorem aE.stays{s:aw}{os:Lo}{fr:Tf}{m:Tm}(x:aE C ads σ s os fr m){ι:Ln}(hl:∀k∈ι,k<ads.length)(oL:Obj):C.g.StaysIn (C.under s oL fr (bz ads ι)).g:=λ b o e=>by
 refine jm _ (x.F.keep b o e) λ q=> ?_;rcases bV.mp q with q | q
 ·refine aj (iQ hl q) λ k _ h4=> ?_
  have lk:k<os.length:=by rw[x.len];exact(dP.mp h4).1
  have:= (x.N _ (bU fr (eI h4 (bP lk)))).2.2;rw[e]at this;contradiction
 ·rw[eJ]at q
  rcases bV.mp q with q | q
  ·refine aj (cZ.mp q) λ p hp e1=> ?_
   rw[Cx.pre_mem hp]at e1;subst e1;exact absurd (i7 (ed e) x.F.above) (gR _)
  ·refine aj (cZ.mp q) λ p hp e1=> ?_
   have:= (x.N p (cu _ hp)).2.2;rw[e1,e]at this;contradiction
theorem yj(c:aW (kI base) l f):fC f f'->aW (kI base) l f':=by
 induction c generalizing f' with
 | nil=>intro h;rw[show f'= [] from h.inv];exact .nil
 | cons x y ih=>
  intro h;refine dY h.inv_cons λ p t zq2 a b=> ?_;subst zq2;refine aj a.2 λ sl e _=> ?_;refine .cons ⟨x.1,by rw[a.1];exact x.2.1,by rw[a.1];exact x.2.2.1,by rw[e];exact x.2.2.2⟩ (ih b)
theorem aE.underOk{s:aw}{os:Lo}{fr:Tf}{m:Tm}(x:aE C ads σ s os fr m)(ok:bc w mg mb bud C){ι:Ln}(hl:∀k∈ι,k<ads.length){oL:Obj}(hL:s.heap.get? C.L=W6 oL){b:Nat}(hb:b<=bud):
  jc w mg mb b (C.under s oL fr (bz ads ι)):=by
 have st:=x.stays hl oL;refine⟨ok.K.keeps st,H6 ok.top st,λ a o e=>st a o (ok.stays a o e), ?_, ?_, ?_,ok.bm.keeps st⟩
 ·have:=ok.dp
  show C.dp+4*b+5<_;lia
 ·have:=ok.un
  show C.un+40*b+40<_;lia
 ·refine cY ok.fro λ f it e hf=> ?_
  have h:=x.frs;rw[e]at h;refine dY (pH h) λ fr₁ Tg zq2 h1 h2=> ?_;subst zq2;refine⟨C.pre oL++fr₁,Tg,(cS ..).symm, ?_⟩;show aW (kI C.base) C.envs _;unfold Cx.envs Cx.pre;cases hc:C.comp with
  | true=>exact yj hf h1
  | false=>
   refine kD x.F.ns λ oL' es ep hL' hd _=> ?_;rw[hL]at hL';obtain rfl:=bQ hL';refine .cons ⟨by show C.scope.kind≠_;rw[ok.kind];decide,by show W6 C.fa=_;rw[(ok.own hc).1],(ok.own hc).2,_,_,hd⟩ (yj hf h1)
theorem yk(hi:ι.Nodup)(hl:∀k∈ι,k<objs.length)(h:objs'[k]? =W6 a):(kM objs ι objs')[fV ι objs.length k]? =W6 (AO.fromL ι objs.length a):=by
 unfold kM fV;cases hk:ι[k]? with
 | some j=>
  have lj:=hl j (dH hk);have lk:= (dP.mp hk).1;show (_++_)[j]? =_;rw[ib (by rw[jQ];exact lj)]
  refine pG hi hk ?_ lj;rw[fy,List.getElem?_take,if_pos lk,h];rfl
 | none=>
  have lk:ι.length<=k:=by simpa using hk
  show (_++_)[objs.length+(k - ι.length)]? =_;rw[kl (by rw[jQ];exact kr ..),jQ,Nat.add_sub_cancel_left,fy,oW,show ι.length+(k - ι.length)=k by grind,h];rfl
theorem H7(hi:ι.Nodup)(hl:∀k∈ι,k<objs.length)(h:jO objs' k):jO (kM objs ι objs') (fV ι objs.length k):=by
 obtain⟨d,h | h⟩:=h
 ·exact⟨_, .inl (yk hi hl h)⟩
 ·exact⟨_, .inr (yk hi hl h)⟩
theorem H8:∀{l:Ld} {ι:Ln} {P:Ld},nB l ι P=W8->∀(i:Nat) (a:ak),l[i]? =W6 a->∃k,ι[i]? =W6 k/\P[k]? =W6 a:=by
 intro l;induction l with
 | nil=>intro ι P _ i a h;cases i <;> contradiction
 | cons b r ih=>
  intro ι P h i a e;induction ι using gS with
  | nil=>contradiction
  | cons k ι=>
   rw[FS]at h;refine aI (bE.mp h) λ h1 h2=> ?_;induction i using Nat.casesOn with
   | zero=>
    obtain rfl:=bQ e;refine⟨k,rfl, ?_⟩;cases q:P[k]? with
    | none=>rw[q]at h1;contradiction
    | some c=>rw[q]at h1;rw[dc h1]
   | succ i=>exact ih h2 i a e
def jX(w:aQ)(mg mb:Tm)(i:Nat)(c:aH):Prop:=
 ∀(D:Dx) (ads:Ld) (objs:La) (kf:Nat) (f:ak) (s:aw) (Q:Tq) (R:Tr),
  jc w mg mb c.bud D->(c.calm=W8->D.hdl=W7)->(∀(i:Nat) (a:ak),c.pins[i]? =W6 a->ads[i]? =W6 a)->gZ D ads objs s->ads[kf]? =W6 f->(∃cc cs,objs[kf]? =W6 (.lam i cc cs))->D.g.objs.size<=s.heap.objs.size->c.spec [.ob kf] objs Q R->
  cf (ag pw w) D.A (.call (.ref f) ⟨[], []⟩) (lX D ads Q R) s
theorem yl{us:Lv}{c:aH}{vals:Lv}(ok:bc w mg mb bud C)(fc:FC w F C)
  (S:∀(ι:Ln) (as:List AV) (objsL:La),bZ (AV.toL ι) args=W6 as->iu ι σ.objs=W6 objsL->∀(D:Dx) (Un:Ld) (s:aw) (Q:Tq) (R:Tr),jc w mg mb c.bud D->(c.calm=W8->D.hdl=W7)->
   (∀(i:Nat) (a:ak),c.pins[i]? =W6 a->Un[i]? =W6 a)->gZ D Un objsL s->bk Un as vals->D.g.objs.size<=s.heap.objs.size->c.spec as objsL Q R->cf (ag pw w) D.A (.call (.ref f) ⟨us, []⟩) (lX D Un Q R) s)
  (hb:c.bud<=bud) (h:c.at F.pins F.calm args σ Q R) (ha:bk ads args vals):
  W w C ads σ (call (.ref f) us []) RV Q R:=by
 rintro s ⟨os,fr,m,X⟩
 unfold aH.at at h
 generalize hι:c.foot args σ.objs=ι at h
 refine cL (o:=bZ (AV.toL ι) args) (λ h1=> ?on) λ as h1=> ?os
 case on=>rw[h1]at h;exact h.elim
 case os=>
  refine cL (o:=iu ι σ.objs) (λ h2=> ?on) λ objsL h2=> ?os
  case on=>rw[h1,h2]at h;exact h.elim
  case os=>
   rw[h1,h2]at h;refine cE (fG h) λ h3 h4 h=> ?_;refine aI (bE.mp h4) λ h4 h5=> ?_;have hi:=xa h3;refine jL X.F.ns λ oL es ep hL TX=> ?_;refine aI (X.goes hi h2 hL) λ led hl=> ?_;have hσ:σ.objs.length=ads.length:=by rw[X.objs.len,X.len]
   have hin:∀b,b∈ads->∃o,s.heap.get? b=W6 o/\C.g.get? b=W7/\b≠C.L:=λ b hb=>by
    refine cv (iE hb) λ k h4=> ?_;have lk:k<os.length:=by rw[X.len];exact(dP.mp h4).1
    have:=X.N _ (bU fr (eI h4 (bP lk)));exact⟨_,this.1,this.2.2,this.2.1⟩
   refine kF (iI (S ι as objsL h1 h2 (C.under s oL fr (bz ads ι)) (bz ads ι) s _ _ (X.underOk ok hl hL hb) (λ q=>fc.calm (by rw[q]at h5;simpa using h5)) (λ i a hp=> ?_) led (rU ha h1) ?_ h) λ r s' hr=> ?_)
   ·refine aj (H8 h4 i a hp) λ k e1 e2=> ?_
    exact iP e1 (dB X.ini (fc.pins k a e2))
   ·show (hideAll s.heap _).objs.size<=_
    rw[hideAll_size];exact ba _
   ·induction r with
    | ok fl=>
     induction fl with
     | ret v=>
      revert hr;refine gU λ ads' objs' av hp led' hc q=> ?_;refine⟨gm ads ι ads',_,_,c9 _ _,X.back hi hl hL hp led', ?_,q⟩;rw[hσ];exact pE hl hp hc
     | _=>exact hr.elim
    | error e=>
     revert hr;refine kE λ ads' objs' k hp led' hd ex q=> ?_;have B:=X.back hi hl hL hp led';refine⟨gm ads ι ads',_,_,B,H7 hi (by rw[hσ];exact hl) hd, ?_,q⟩
     revert ex;refine o_ λ a oe vs ha zq4 Uh V2 hsz htb=> ?_;subst zq4;rw[hσ];refine⟨a,oe,vs,jr hl hp ha,rfl,Uh,V2,hsz, ?_⟩;rcases htb with htb | ⟨T,oT,ts,t1,t2,t3,t4,t5,t6,t7⟩
     ·exact .inl htb
     ·have visible:∀b o,s.heap.get? b=W6 o->b ∉ bz ads ι->b ∉ (C.pre oL++fr).map (·.1)->(C.under s oL fr (bz ads ι)).g.get? b=W6 o:=λ b o e n1 n2=>jm _ e λ q=>by
       rcases bV.mp q with q | q
       ·exact n1 q
       ·exact n2 q
      have hfro:(C.under s oL fr (bz ads ι)).fro=C.pre oL++fr:=rfl;rw[hfro]at t4;have tads:T ∉ ads:=λ q=>by
       refine cO (hin T q) λ o e1 _ e3=> ?_;have:T ∉ bz ads ι:=λ q'=>by
        revert hp;refine dw λ t ht=> ?_;exact t3 (by rw[←ht];exact bU _ q')
       rw[visible T o e1 this t4]at t2;contradiction
      have tL:T≠C.L:=λ q=>by
       subst q;have:C.L ∉ bz ads ι:=λ q'=>by
        refine aj (iQ hl q') λ k _ e=> ?_;exact tads (dH e)
       rw[visible _ _ hL this t4]at t2;contradiction
      refine .inr ⟨T,oT,ts, .none,t1, ?_, ?_,tL, ?_,t5,t6,t7, .inl rfl⟩
      ·cases q:C.g.get? T with
       | none=>rfl
       | some o=>rw[X.stays hl oL _ _ q]at t2;contradiction
      ·intro q
       unfold gm at q;rcases bV.mp q with q | q
       ·exact tads q
       ·exact t3 (kn q)
      ·rw[←X.frs.keys]
       intro q;exact t4 (by rw[eJ];exact cu _ q)
theorem ym{c:aH}{vals:Lv}(ok:bc w mg mb bud C)(fc:FC w F C)(S:bx w mg mb f c)(hb:c.bud<=bud)(h:c.at F.pins F.calm args σ Q R)(ha:bk ads args vals):
  W w C ads σ (call (.ref f) vals []) RV Q R:=
 yl ok fc (λ _ as objsL _ _ D Un s Q R h1 h2 h3 h4 h5 h6 h7=>S D Un objsL as vals s Q R h1 h2 h3 h4 h5 h6 h7) hb h ha
theorem H9{c:aH}(ok:bc w mg mb bud C)(fc:FC w F C)(S:jX w mg mb i c)(hb:c.bud<=bud)(h:c.at F.pins F.calm [.ob k] σ Q R)(hk:σ.objs[k]? =W6 ao)(hl:kT ao=W6 i)(ha:aU ads (.ob k) (.ref f)):
  W w C ads σ (call (.ref f) [] []) RV Q R:=by
 refine yl ok fc (vals:= [.ref f]) (λ ι as objsL h1 h2 D Un s Q R d1 d2 d3 d4 d5 d6 d7=> ?_) hb h (.cons ha .nil);refine aj (bO.mp h1) λ b q1 q2=> ?_;injection q2 with zq;subst zq
 refine aj (ez.mp q1) λ j hj zq2=> ?_;subst zq2;cases d5 with
 | cons x _=>
  revert x;refine b7 λ a e1 e2=> ?_;injection e2 with zq;subst zq
  have ho:aW (λ k a=>(σ.objs[k]?).bind (AO.toL ι)=W6 a) ι objsL:=pC h2;refine aj (ho.get (iO hj)) λ o' e3 e4=> ?_;rw[hk]at e4;have e4:AO.toL ι ao=W6 o':=e4;refine S D Un objsL j f s Q R d1 d2 d3 d4 e1 ?_ d6 d7;cases ao <;> first | cases hl | skip
  refine aj (bO.mp e4) λ c' _ e5=> ?_;refine aj (ez.mp e5) λ cs' _ zq2=> ?_;subst zq2;exact⟨_,_,e3⟩
end
end
section
open PySem.Calls
section
variable{w:aQ}{mg mb:Tm}{C:Cx}{ads:Ld}{σ:AS}{bud:Nat}{F:Cf}{R:Tn}
def RF(ads:Ld)(f:Flow)(a:AF):Prop:=match a with
 | .next=>f= .next
 | .brk=>f= .brk
 | .cont=>f= .cont
 | .ret v=>∃u,f= .ret u/\aU ads v u
def iV(C:Cx)(Q:AF->AS->Prop)(f:Flow)(s':aw):Prop:=∃ads' σ' b,bK C ads' σ' s'/\RF ads' f b/\Q b σ'
def WS(w:aQ)(C:Cx)(ads:Ld)(σ:AS)(t:Sem Flow)(Q:AF->AS->Prop)(R:Tn):Prop:=
 ∀s,bK C ads σ s->ai (ag pw w) C.A t (iV C Q) (dD C R) s
theorem nX(hk:C.scope.kind= .function):(C.env.scope.kind==ScopeKind.class || (C.env.scope.kind==ScopeKind.module && C.env.locals !=C.env.globals))=W9:=by
 have:C.env.scope.kind= .function:=hk;rw[this];rfl
theorem passes(ok:bc w mg mb bud C)(hc:C.comp=W9)(h:dD C R e s):
  eA (ag pw w) C.A C.env (λ e s'=>i_ (ag pw w) C.A C.env (dD C R) e s') e s:=by
 revert h;refine gU λ ads' σ' k Tp hk ex hR=> ?_;revert Tp;refine dk λ os fr m X=> ?_;unfold eA;refine nD ok hc X hk ex λ h' tk os' fr' X' fl=> ?_;unfold i_;refine rp (id fl) λ a oe vs ha zq4 Uh hd hsz T oT ts h1 rest=> ?_;subst zq4;refine aB (ig Uh hd h1 ?_);rw[if_neg (show ¬ ((di T==ja)=W8) from by simp)]
 refine lZ X' fl C.env.frame λ VT W5 Wg=> ?_;refine⟨ads',σ',k,⟨os',fr',m,W5⟩,hk,Wg.rep (.inr ?_),hR⟩;rfl
noncomputable def Cx.plus(C:Cx)(E:Tf):Cx:={ C with fro:=C.fro++E }
theorem yn(ok:bc w mg mb bud C):bc w mg mb bud (C.plus E):=by
 refine cY ok.fro λ f it e hf=> ?_;exact⟨⟨ok.K,ok.top,ok.stays,ok.dp,ok.un,⟨f,it++E,by show C.fro++E=_;rw[e,cS],hf⟩,ok.bm⟩,ok.kind,ok.own⟩
theorem H_(fc:FC w F C):FC w F (C.plus E):=⟨fc.scope,fc.hid,fc.qual,fc.code,fc.ini,fc.cells,fc.pins,fc.calm⟩
theorem aE.hide{s:aw}{os:Lo}{fr:Tf}{m:Tm}(x:aE C ads σ s os fr m){E:Tf}
  (hE:∀p∈E,s.heap.get? p.1=W6 p.2/\p.1≠C.L/\C.g.get? p.1=W7) (hn:((ads++fr.map (·.1))++E.map (·.1)).Nodup):aE (C.plus E) ads σ s os (fr++E) m:=by
 refine⟨x.hgens,x.hdrawn,x.hos,x.F,x.loc,λ p hp=> ?_,x.len,x.objs, ?_, ?_,x.ini⟩
 ·rw[←cS]at hp
  refine c_ (bV.mp hp) (λ q=> ?_) (λ q=> ?_)
  ·exact x.N p q
  ·exact hE p q
 ·rw[eJ,←cS];exact hn
 ·exact x.frs.append (kN rfl λ k a b h1 h2=>by rw[h1]at h2;(injection h2 with zq;subst zq);exact⟨rfl,a.2.slots,rfl,λ _=>rfl⟩)
theorem aE.unhide{s:aw}{os:Lo}{fr':Tf}{m:Tm}{E:Tf}(x:aE (C.plus E) ads σ s os fr' m)(hf:∀p∈E,eP p.2=W8):
  ∃fr,fr'=fr++E/\aE C ads σ s os fr m/\(∀p∈E,s.heap.get? p.1=W6 p.2/\p.1≠C.L/\C.g.get? p.1=W7)/\((ads++fr.map (·.1))++E.map (·.1)).Nodup:=by
 have h:fC (C.fro++E) fr':=x.frs;refine dY (pH h) λ fr E' zq2 h1 h2=> ?_;subst zq2;have hE:E'=E:=by
  clear x h
  induction h2 with
  | nil=>rfl
  | cons a b ih=>
   rename_i p q l m;rw[ih λ p hp=>hf p (.tail _ hp)]
   congr 1
   revert a;refine jK λ e1 sl e2 e3=> ?_;have:=e3 (hf _ (.head _));obtain⟨q1,q2⟩:=q;simp only at e1 e2;rw[e1,e2,this]
 subst hE;have hn:=x.nd;rw[eJ,←cS]at hn;refine⟨fr,rfl,⟨x.hgens,x.hdrawn,x.hos,x.F,x.loc,λ p hp=>x.N p ?_,x.len,x.objs,(cC.mp hn).1,h1,x.ini⟩,λ p hp=>x.N p (cu _ (cu _ hp)),hn⟩;rw[←cS];exact bU _ hp
theorem H'(hf:∀p∈E,eP p.2=W8)(h:dD (C.plus E) R e s):dD C R e s:=by
 revert h;refine gU λ ads' σ' k Tp hk ex hR=> ?_;revert Tp;refine dk λ os fr m X=> ?_;refine cO (X.unhide hf) λ fr' SY X' _=> ?_;subst SY;refine⟨ads',σ',k,⟨os,fr',m,X'⟩,hk, ?_,hR⟩;revert ex;refine o_ λ a oe vs ha zq4 Uh hd hsz htb=> ?_;subst zq4;refine⟨a,oe,vs,ha,rfl,Uh,hd,hsz, ?_⟩;revert htb;refine fz (λ h=> ?_) (λ zr=> ?_)
 ·exact .inl h
 ·revert zr
  refine CJ λ T oT ts fl h1 h2 h3 h4 h5 h6=> ?_;refine .inr ⟨T,oT,ts,fl,h1,h2,h3,h4,λ q=>h5 ?_,h6⟩;show T∈(C.fro++E).map (·.1);rw[eJ];exact bU _ q
theorem yo(hf:∀p∈E,eP p.2=W8)(h:iV (C.plus E) Q f s):iV C Q f s:=by
 revert h;refine gi λ ads' σ' b Tp h1 h2=> ?_;revert Tp;refine dk λ os fr m X=> ?_;refine cO (X.unhide hf) λ fr' SY X' _=> ?_;subst SY;exact⟨ads',σ',b,⟨os,fr',m,X'⟩,h1,h2⟩
structure Wk (w:aQ) (A:dj) (I:ak) (fp:Ld) (n:Nat) (P:Nat->az->Prop) (St:Nat->bS->Prop):Prop where
 frame:∀i h h',St i h->(∀b∈I::fp,∀o,h.get? b=W6 o->h'.get? b=W6 o)->St i h'
 there:∀i h,St i h->∃o,h.get? I=W6 o/\eP o=W8
 item:∀i (s:aw) (Q:Option az->aw->Prop) (E:Tv),i<n->St i s.heap->
  (∀v h' tk,P i v->St (i+1) h'->(∀b o,b≠I->s.heap.get? b=W6 o->h'.get? b=W6 o)->Q (W6 v) { s with heap:=h',toks:=tk })->aC (ag pw w) A (pyNext (.ref I)) Q E s
 done:∀(s:aw) (Q:Option az->aw->Prop) (E:Tv),St n s.heap->
  (∀h' tk,(∀b o,b≠I->s.heap.get? b=W6 o->h'.get? b=W6 o)->Q W7 { s with heap:=h',toks:=tk })->aC (ag pw w) A (pyNext (.ref I)) Q E s
 self:∀i (s:aw) (Q:Tv) (E:Tv),St i s.heap->Q (.ref I) s->aC (ag pw w) A (pyIter (.ref I)) Q E s
theorem Ib{x:ab}{px:Pos}{body:List cD}{I:ak}{G:Tf}{n:Nat}{P:Nat->az->Prop}{St:Nat->bS->Prop}{item:Nat->AV}{J Nx:Tn}{Q:AF->AS->Prop}{oI:Obj}
  (ok:bc w mg mb bud C) (hc:C.comp=W9) (hx:C.scope.names.lookup x=W6 .local) (Wk:Wk w C.A I (G.map (·.1)) n P St) (hG:∀p∈G,eP p.2=W8)
  (hP:∀i v,P i v->∀ads,aU ads (item i) v)
  (step:∀i τ,i<n->J i τ->∀E ads,WS w (C.plus E) ads ⟨dU x (item i) τ.loc,τ.objs⟩ (dM body C.env) (λ f SZ=>match f with
   | .next=>Nx (i+1) SZ
   | .cont=>Nx (i+1) SZ
   | .brk=>Q .next SZ
   | .ret v=>Q (.ret v) SZ) R)
  (hN:∀j SZ,Nx j SZ->∀E ads s,bK (C.plus E) ads SZ s->∃ads' τ',bK (C.plus E) ads' τ' s/\J j τ')
  (TV:∀τ,J n τ->Q .next τ)
  {s:aw} {os:Lo} {fr:Tf} {m:Tm} (X:aE C ads σ s os fr m) (h0:J 0 σ) (Ug:St 0 s.heap)
  (hE:∀p∈(I,oI)::G,s.heap.get? p.1=W6 p.2/\p.1≠C.L/\C.g.get? p.1=W7) (hn:((ads++fr.map (·.1))++((I,oI)::G).map (·.1)).Nodup):
  cf (ag pw w) C.A (.forLoop (.Name x px) (.ref I) body [] C.env) (λ r s'=>match r with | .ok f=>iV C Q f s' | .error e=>i_ (ag pw w) C.A C.env (dD C R) e s') s:=by
 obtain⟨V,to,of⟩:∃V:Nat->aw->Prop,(∀k s,V k s->∃i ads τ os fr m oI,k=n+1 - i/\i<=n/\aE C ads τ s os fr m/\J i τ/\St i s.heap/\(∀p∈(I,oI)::G,s.heap.get? p.1=W6 p.2/\p.1≠C.L/\C.g.get? p.1=W7)/\
  ((ads++fr.map (·.1))++((I,oI)::G).map (·.1)).Nodup)/\(∀i s ads τ os fr m oI,i<=n->aE C ads τ s os fr m->J i τ->St i s.heap->(∀p∈(I,oI)::G,s.heap.get? p.1=W6 p.2/\p.1≠C.L/\C.g.get? p.1=W7)->
  ((ads++fr.map (·.1))++((I,oI)::G).map (·.1)).Nodup->V (n+1 - i) s):=⟨_,λ _ _ h=>h,λ i s ads τ os fr m oI a b c d e f=>⟨i,ads,τ,os,fr,m,oI,rfl,a,b,c,d,e,f⟩⟩
 refine EH V ?_ (n+1) (of 0 _ _ _ _ _ _ _ (Nat.zero_le _) X h0 Ug hE hn)
 clear X h0 Ug hE hn
 intro k s hV;obtain⟨i,ads,τ,os,fr,m,oI,rfl,hi,X,hJ,Ug,hE,hn⟩:=to k s hV
 clear hV to
 have Wt:∀{h':bS} {tk:Nat},(∀b o,b≠I->s.heap.get? b=W6 o->h'.get? b=W6 o)->aE C ads τ { s with heap:=h',toks:=tk } os fr m:=λ {h' tk} hk=>
  X.off λ b o hb hc=>hk b o (λ e=>by
   subst e;have f:=hE (b,oI) (.head _);have hn':= (cC.mp hn).2.2;revert hc;refine gj (λ hc=> ?_) (λ hc=> ?_) (λ hc=> ?_) (λ hc=> ?_)
   ·exact f.2.1 hc
   ·exact hn' b (bU _ hc) b (.head _) rfl
   ·exact hn' b (cu _ hc) b (.head _) rfl
   ·rw[f.2.2]at hc;contradiction) hb
 by_cases hlt:i<n
 ·refine toG <| Wk.item i s _ _ hlt Ug λ v h' tk hv hst' hk=> ?_
  have X':=Wt (tk:=tk) hk;refine aj (Wk.there _ _ hst') λ oI' hI' hfI=> ?_;have hE':∀p∈(I,oI')::G,h'.get? p.1=W6 p.2/\p.1≠C.L/\C.g.get? p.1=W7:=λ p hp=>by
   refine c_ (bR.mp hp) (λ zr=> ?_) (λ hp=> ?_)
   ·subst zr
    exact⟨hI',(hE (I,oI) (.head _)).2⟩
   ·have f:=hE p (.tail _ hp)
    refine⟨hk _ _ (λ e=> ?_) f.1,f.2⟩;have:= (cC.mp hn).2.1;rw[eW]at this;exact(ku.mp this).1 (by have e:p.1=I:=e;show I∈_;rw[←e];exact gN hp)
  have hf':∀p∈(I,oI')::G,eP p.2=W8:=λ p hp=>by
   refine c_ (bR.mp hp) (λ zr=> ?_) (λ hp=> ?_)
   ·subst zr
    exact hfI
   ·exact hG p hp
  have Y:=X'.hide hE' hn;refine toG <| wpAny_assign_Name (rh (by show C.scope.names.lookup x=_;exact hx) X'.F.ns (λ VT hn'' hs''=> ?_) (nX ok.kind))
  have Z:bK (C.plus ((I,oI')::G)) ads ⟨dU x (item i) τ.loc,τ.objs⟩ { s with heap:=VT,toks:=tk+1 }:=⟨_,_,_,Y.store (tk:=tk+1) hn'' hs'' (hP i v hv ads)⟩
  refine aK (step i τ hlt hJ _ ads _ Z) (λ f s₃ S_=> ?_) λ e s₃ S_=>passes ok hc (H' hf' S_);have nextOk:∀SZ SU,bK (C.plus ((I,oI')::G)) SU SZ s₃->Nx (i+1) SZ->∃m₁,m₁<n+1 - i/\V m₁ s₃:=λ SZ SU S5 hx=>by
   refine cY (hN _ _ hx _ _ _ S5) λ TF τ' zq2 hJ'=> ?_;revert zq2;refine dk λ Ws fr₃ m₃ X₃=> ?_;refine rm (X₃.unhide hf') λ W1 SY X₄ VS hn₄=> ?_;subst SY;refine⟨n+1 - (i+1),Nat.sub_lt_sub_left (jD hlt) (ic i),of (i+1) _ TF τ' Ws W1 m₃ oI' hlt X₄ hJ' (Wk.frame _ _ _ hst' λ b hb o ho=> ?_) VS hn₄⟩;have hb':b∈((I,oI')::G).map (·.1):=hb;refine aj (cZ.mp hb') λ p hp zq2=> ?_;subst zq2;have:= (hE' p hp).1;rw[ho]at this;rw[bQ this];exact(VS p hp).1
  revert S_;refine gi λ SU SZ b S5 hf hq=> ?_;induction b with
  | next=>obtain rfl:=hf;exact nextOk _ _ S5 hq
  | cont=>obtain rfl:=hf;exact nextOk _ _ S5 hq
  | brk=>obtain rfl:=hf;exact yo hf' ⟨SU,SZ, .next,S5,rfl,hq⟩
  | ret v=>obtain⟨u,rfl,hu⟩:=hf;exact yo hf' ⟨SU,SZ, .ret v,S5,⟨u,rfl,hu⟩,hq⟩
 ·obtain rfl:i=n:=by omega
  refine toG <| Wk.done s _ _ Ug λ h' tk hk=> ?_
  exact toG <| wpAny_execs_nil ⟨ads,τ, .next,⟨os,fr,m,Wt hk⟩,rfl,TV _ hJ⟩
end
end
section
open PySem.Calls
section
variable{w:aQ}{C:Cx}{ads:Ld}{σ:AS}{A:dj}
theorem Ic(hh:A.handled=W7)(I:ak)(b:Array UInt8)(t:Tok):Wk w A I [] b.size (λ i v=>∃c u,b[i]? =W6 c/\v= .int (c.toNat:Int) u) (λ i h=>KBw.IsBytesIter h I b t i) where
 frame:=λ _ _ _ ⟨o,ho,r⟩ hk=>⟨o,hk I (.head _) o ho,r⟩
 there:=λ _ _ ⟨o,ho,_,hd⟩=>⟨o,ho,by unfold eP;rw[hd]⟩
 item:=λ i s Q E hi st hQ=>KBw.next_item st (c:=b[i]) (by simp[hi]) λ h' Us T_=>hQ _ h' (s.toks+1) ⟨_,_,by simp[hi],rfl⟩ Us λ b o hb e=>T_.extBut b o hb e
 done:=λ s Q E st hQ=>KBw.next_end hh st (by simp) λ h' he'=>hQ h' s.toks λ b o hb e=>he' b o hb e
 self:=λ _ _ _ _ st hQ=>KBw.pyIter_self st hQ
theorem Ie(hh:A.handled=W7)(I:ak)(x:ab)(t:Tok):Wk w A I [] x.cps.size (SignAt x) (λ i h=>h.IsStrIter I "str_ascii_iterator" x t i) where
 frame:=λ _ _ _ ⟨o,ho,r⟩ hk=>⟨o,hk I (.head _) o ho,r⟩
 there:=λ _ _ ⟨o,ho,_,hd⟩=>⟨o,ho,by unfold eP;rw[hd]⟩
 item:=λ i s Q E hi st hQ=>wpAny_pyNext_ascii_item st (c:=x.cps[i]) (by simp[hi]) λ h' Us T_=>hQ _ h' (s.toks+1) ⟨_,_,by simp[hi],rfl⟩ Us λ b o hb e=>T_.extBut b o hb e
 done:=λ s Q E st hQ=>wpAny_pyNext_ascii_end hh st (by simp) λ h' he'=>hQ h' s.toks λ b o hb e=>he' b o hb e
 self:=λ _ _ _ _ st hQ=>wpAny_pyIter_striter_ascii st hQ
theorem Ig(hh:A.handled=W7)(I:ak)(x:ab)(t:Tok):Wk w A I [] x.cps.size (SignAt x) (λ i h=>h.IsStrIter I "str_iterator" x t i) where
 frame:=λ _ _ _ ⟨o,ho,r⟩ hk=>⟨o,hk I (.head _) o ho,r⟩
 there:=λ _ _ ⟨o,ho,_,hd⟩=>⟨o,ho,by unfold eP;rw[hd]⟩
 item:=λ i s Q E hi st hQ=>wpAny_pyNext_wide_item st (c:=x.cps[i]) (by simp[hi]) λ h' Us T_=>hQ _ h' (s.toks+1) ⟨_,_,by simp[hi],rfl⟩ Us λ b o hb e=>T_.extBut b o hb e
 done:=λ s Q E st hQ=>wpAny_pyNext_wide_end hh st (by simp) λ h' he'=>hQ h' s.toks λ b o hb e=>he' b o hb e
 self:=λ _ _ _ _ st hQ=>wpAny_pyIter_striter_wide st hQ
theorem sM(hh:A.handled=W7)(I ax:ak)(TT:ax≠I)(items:Array az):Wk w A I [ax] items.size (λ i v=>items[i]? =W6 v) (λ i h=>h.IsListIter I ax i/\h.IsList ax items) where
 frame:=λ _ _ _ st hk=>(Walks.list (prog:=pw) (w:=w) hh I ax TT items).frame _ _ _ st λ b hb=>hk b (by simpa using hb)
 there:=λ _ _ ⟨⟨o,ho,_,hd⟩,_⟩=>⟨o,ho,by unfold eP;rw[hd]⟩
 item:=λ i s Q E hi st hQ=>(Walks.list hh I ax TT items).item i s Q E hi st λ v h' tk hv st' hk=>hQ v h' tk hv st' λ b o hb=>hk b o (by simpa using hb)
 done:=λ s Q E st hQ=>(Walks.list hh I ax TT items).done s Q E st λ h' tk hk=>hQ h' tk λ b o hb=>hk b o (by simpa using hb)
 self:=λ i s Q E st hQ=>(Walks.list hh I ax TT items).self i s Q E st hQ
theorem Ih{n:Nat}(h:n<=1048576):Builtin.Range.small 0 n 1=W8/\Builtin.Range.rangeSize 0 n 1=n:=by
 have hs:Builtin.Range.rangeSize 0 n 1=n:=by
  unfold Builtin.Range.rangeSize;simp
  try lia
 refine⟨?_,hs⟩;unfold Builtin.Range.small;rw[hs];unfold Builtin.Range.rangeFitsLong;simp;lia
theorem Ii(hh:A.handled=W7)(I:ak)(n:Nat):Wk w A I [] n (λ i v=>∃t,v= .int i t) (λ i h=>IsRangeIter h I i ((n:Int) - i) 1) where
 frame:=λ _ _ _ st hk=>hk I (.head _) _ st
 there:=λ _ _ st=>⟨_,st,rfl⟩
 item:=λ i s Q E hi st hQ=>wpAny_pyNext_range_item st (by lia) λ h' Us T_=>hQ _ h' (s.toks+1) ⟨_,rfl⟩ (by
  have e1:((i+1:Nat):Int)= (i:Int)+1:=by push_cast;rfl
  have e2:(n:Int) - ((i+1:Nat):Int)= (n:Int) - (i:Int) - 1:=by push_cast;lia
  show IsRangeIter h' I ((i+1:Nat):Int) _ 1;rw[e1];rw[e1]at e2;rw[e2];exact Us) λ b o hb e=>T_.extBut b o hb e
 done:=λ s Q E st hQ=>wpAny_pyNext_range_end hh st (by lia) λ h' he'=>hQ h' s.toks λ b o hb e=>he' b o hb e
 self:=λ i s Q E st hQ=>wpAny_pyIter_rangeiter st hQ
theorem Ij(hb:∀x∈b,x<256)(h:(cx b)[i]? =W6 c):c.toNat=b.getD i 0:=by
 unfold cx at h;simp at h;revert h;refine b7 λ a ha zq2=> ?_;subst zq2;rw[dX,ha];simp[Nat.mod_eq_of_lt (hb a (dH ha))]
theorem yp{l:Ln}{i:Nat}{v:az}(h:SignAt ⟨l.toArray⟩ i v)(ads:Ld):aU ads (.st [l.getD i 0]) v:=by
 revert h;refine c7 λ c u h1 Tp=> ?_;subst Tp;simp at h1;refine⟨u, ?_⟩;rw[dX,h1];rfl
structure Ik (w:aQ) (C:Cx) (ads:Ld) (os:Lo) (a:AV) (n:Nat) (item:Nat->AV) (s:aw) (Ia:ak) (o:Obj) (G:Tf) (P:Nat->az->Prop) (St:Nat->bS->Prop):Prop where
 wk:Wk w C.A Ia (G.map (·.1)) n P St
 item:∀i v,P i v->∀ads',ads <+:ads'->aU ads' (item i) v
 fixed:∀p∈G,eP p.2=W8/\∃k,a= .ob k/\ads[k]? =W6 p.1/\os[k]? =W6 p.2
 one:G.length<=1
 fo:eP o=W8
 alive:o.isFreed=W9
 st:St 0 (s.heap.push o)
theorem qi{α:Type}{l:List α}{a d:α}(h:l[i]? =W6 a):l.getD i d=a:=by rw[dX,h];rfl
theorem yq{vs:Array az}(h:bk ads xs vs.toList)(hv:vs[i]? =W6 v)(hp:ads <+:ads'):aU ads' (xs.getD i .non) v:=by
 have hl:=h.len;have hi:i<xs.length:=by
  rw[hl];have:= (uO.mp hv).1
  simpa using this
 have h1:xs[i]? =W6 xs[i]:=bP hi;rw[nW h1];exact(h.at h1 (by rw[Array.getElem?_toList];exact hv)).mono hp
inductive iy (σ:AS):AV->It->Prop
 | bytes (l:Ln):iy σ (.by_ l) ⟨l.length,λ i=> .num (l.getD i 0)⟩
 | text (l:Ln):iy σ (.st l) ⟨l.length,λ i=> .st [l.getD i 0]⟩
 | range (k n:Nat):σ.objs[k]? =W6 (.rng n)->iy σ (.ob k) ⟨n,λ i=> .num i⟩
 | list (k:Nat) (ao:AO) (xs:List AV) (item:Nat->AV):σ.objs[k]? =W6 ao->fF ao=W6 xs->(∀i,i<xs.length->item i=xs.getD i .non)->iy σ (.ob k) ⟨xs.length,item⟩
theorem yr{I:It}(hk:σ.objs[k]? =W6 ao)(h:pV ao=W6 I):iy σ (.ob k) I:=by
 induction ao with
 | lst xs=>(injection h with zq;subst zq);exact .list k _ xs _ hk rfl λ _ _=>rfl
 | lstS xs=>
  injection h with zq;subst zq
  have:=iy.list (σ:=σ) k _ (xs.map .st) (λ i=> .st (xs.getD i [])) hk rfl λ i hi=>by
    have hi':i<xs.length:=by simpa using hi
    show Xd (xs.getD i [])= (xs.map Xd).getD i .non;rw[qi (a:=Xd xs[i]) (by rw[fy,bP hi'];rfl),qi (bP hi')]
  rw[dq]at this;exact this
 | lstI xs=>
  injection h with zq;subst zq
  have:=iy.list (σ:=σ) k _ (xs.map .num) (λ i=> .num (xs.getD i 0)) hk rfl λ i hi=>by
    have hi':i<xs.length:=by simpa using hi
    show Xc (xs.getD i 0)= (xs.map Xc).getD i .non;rw[qi (a:=Xc xs[i]) (by rw[fy,bP hi'];rfl),qi (bP hi')]
  rw[dq]at this;exact this
 | rng n=>(injection h with zq;subst zq);exact .range k n hk
 | _=>injection h
theorem yt(h:su a σ=W6 I):iy σ a I:=by
 induction a with
 | by_ l=>(injection h with zq;subst zq);exact .bytes l
 | st l=>(injection h with zq;subst zq);exact .text l
 | ob k=>obtain⟨ao,hk,h⟩:=bO.mp h;exact yr hk h
 | _=>injection h
theorem yu{E:Tv}{a:AV}{u:az}{I:It}{s:aw}{os:Lo}{fr:Tf}{m:Tm}{Q:Tv}(hh:C.hdl=W7)(h:iy σ a I)(hsz:I.n<=1048576)(ha:aU ads a u)
  (X:aE C ads σ s os fr m)
  (q:∀o P St,Wk w C.A s.heap.objs.size [] I.n P St->(∀i v,P i v->∀ads',aU ads' (I.item i) v)->(∀k,a= .ob k->∃n,σ.objs[k]? =W6 (.rng n))->eP o=W8->o.isFreed=W9->St 0 (s.heap.push o)->Q (.ref s.heap.objs.size) { s with heap:=s.heap.push o })
  (q2:∀k ao xs ax vs n,a= .ob k->σ.objs[k]? =W6 ao->fF ao=W6 xs->I.n=xs.length->(∀i,i<xs.length->I.item i=xs.getD i .non)->ads[k]? =W6 ax->os[k]? =W6 (W.listOf vs n)->bk ads xs vs.toList->s.heap.get? ax=W6 (W.listOf vs n)->
   Q (.ref s.heap.objs.size) { s with heap:=s.heap.push { cls:= .type "list_iterator",data:= .fields #[.ref ax, .int 0 0] } }):aC (ag pw w) C.A (pyIter u) Q E s:=by
 have hA:C.A.handled=W7:=hh;induction h with
 | bytes l=>
  revert ha;refine nh λ hb t zq2=> ?_;subst zq2;refine KBw.pyIter_bytes (q _ (λ i v=>∃c u,(cx l)[i]? =W6 c/\v= .int (c.toNat:Int) u) (λ i h=>KBw.IsBytesIter h s.heap.objs.size (cx l) t i) ?_ (λ i v hv ads'=> ?_) (λ k e=>by contradiction) rfl rfl ⟨_,fx _ rfl,rfl,rfl⟩)
  ·have:l.length= (cx l).size:=by unfold cx;simp
   show Wk w C.A _ [] l.length _ _;rw[this];exact Ic hA _ _ t
  ·revert hv
   refine c7 λ c u h1 Tp=> ?_;subst Tp;exact⟨u,by rw[Ij hb h1]⟩
 | text l=>
  revert ha;refine dw λ t SY=> ?_;subst SY;have hl:l.length= (⟨l.toArray⟩:ab).cps.size:=by simp
  refine cF (b:= (⟨l.toArray⟩:ab).cps.all (· <128)) (λ We=> ?bt) λ We=> ?bf
  case bt=>
   refine wpAny_pyIter_ascii We (q _ (SignAt ⟨l.toArray⟩) (λ i h=>h.IsStrIter s.heap.objs.size "str_ascii_iterator" ⟨l.toArray⟩ t i) ?_ (λ i v hv ads'=>yp hv _) (λ k e=>by contradiction) rfl rfl ⟨_,fx _ rfl,rfl,rfl⟩)
   show Wk w C.A _ [] l.length _ _;rw[hl];exact Ie hA _ _ t
  case bf=>
   refine wpAny_pyIter_wide We (q _ (SignAt ⟨l.toArray⟩) (λ i h=>h.IsStrIter s.heap.objs.size "str_iterator" ⟨l.toArray⟩ t i) ?_ (λ i v hv ads'=>yp hv _) (λ k e=>by contradiction) rfl rfl ⟨_,fx _ rfl,rfl,rfl⟩)
   show Wk w C.A _ [] l.length _ _;rw[hl];exact Ig hA _ _ t
 | range k n hk=>
  revert ha;refine b7 λ ax hax zq2=> ?_;subst zq2;refine il (X.obj hk) λ ax' o h1 h2 zq4 h4 _=> ?_;revert zq4;refine dk λ t0 t1 t2 Tp=> ?_;subst Tp;rw[hax]at h1;obtain rfl:=bQ h1;refine aI (Ih hsz) λ g1 g2=> ?_;refine wpAny_pyIter_range h4 g1 ?_;rw[g2];refine q _ (λ i v=>∃t,v= .int i t) (λ i h=>IsRangeIter h s.heap.objs.size i ((n:Int) - i) 1) (Ii hA _ n) (λ i v hv ads'=>hv) (λ k' e=>⟨n,by cases e;exact hk⟩) rfl rfl ?_
  show IsRangeIter _ _ _ _ _;simp only[oZ,Int.sub_zero];exact fx _ rfl
 | list k ao xs item hk hxs hit=>
  revert ha;refine b7 λ ax hax zq2=> ?_;subst zq2;refine cO (dZ X hax hk) λ o h2 h3 h4=> ?_;refine cY (xZ hxs h3) λ vs n zq2 hc=> ?_;subst zq2;exact wpAny_pyIter_list (items:=vs) ⟨_,h4,rfl,n,rfl⟩ (q2 k ao xs ax vs n rfl hk hxs rfl hit hax h2 hc h4)
theorem Il{E:Tv}{a:AV}{u:az}{I:It}{s:aw}{os:Lo}{fr:Tf}{m:Tm}{Q:Tv}(hh:C.hdl=W7)(h:iy σ a I)(hsz:I.n<=1048576)(ha:aU ads a u)
  (X:aE C ads σ s os fr m) (q:∀o G P St,Ik w C ads os a I.n I.item s s.heap.objs.size o G P St->Q (.ref s.heap.objs.size) { s with heap:=s.heap.push o }):aC (ag pw w) C.A (pyIter u) Q E s:=by
 refine yu hh h hsz ha X (λ o P St wk hP _ fo al st=>q o [] P St ⟨wk,λ i v hv ads' _=>hP i v hv ads',(λ p hp=>nomatch hp),Nat.zero_le _,fo,al,st⟩) λ k ao xs ax vs n e hk hxs hn hit hax h2 hc h4=> ?_
 have hlt:ax≠s.heap.objs.size:=fj (ed h4);have hl:xs.length=vs.size:=by rw[hc.len];simp
 refine q _ [(ax,W.listOf vs n)] (λ i v=>vs[i]? =W6 v) (λ i h=>h.IsListIter s.heap.objs.size ax i/\h.IsList ax vs) ⟨?_,λ i v hv ads' hp=> ?_,λ p hp=> ?_,ba _,rfl,rfl, ?_⟩
 ·rw[hn,hl];exact sM hh _ ax hlt vs
 ·rw[hit i (by rw[hl];exact(uO.mp hv).1)]
  exact yq hc hv hp
 ·rw[dI.mp hp]
  exact⟨rfl,k,e,hax,h2⟩
 ·exact⟨⟨_,fx _ rfl,rfl,rfl⟩,⟨_,dt _ h4,rfl,n,rfl⟩⟩
theorem Im(h:nJ a σ=W6 I):iy σ a I/\(∀i ads ads' v,aU ads (I.item i) v->aU ads' (I.item i) v):=by
 induction a with
 | by_ l=>(injection h with zq;subst zq);exact⟨.bytes l,λ _ _ _ _ c=>c⟩
 | st l=>(injection h with zq;subst zq);exact⟨.text l,λ _ _ _ _ c=>c⟩
 | ob k=>
  refine aj (bO.mp h) λ ao hk h=> ?_;have h':pV ao=W6 I:=by
   refine cF (b:=nI ao) (λ q=> ?bt) λ q=> ?bf
   case bt=>rw[q]at h;exact h
   case bf=>rw[q]at h;contradiction
  refine⟨yr hk h', ?_⟩;induction ao with
  | lstS xs=>(injection h with zq;subst zq);exact λ _ _ _ _ c=>c
  | lstI xs=>(injection h with zq;subst zq);exact λ _ _ _ _ c=>c
  | rng n=>(injection h with zq;subst zq);exact λ _ _ _ _ c=>c
  | lst xs=>contradiction
  | _=>injection h'
 | _=>injection h
structure sN (w:aQ) (A:dj) (I:ak) (n:Nat) (item:Nat->AV) (Src:List ak->bS->Prop) (St:Nat->bS->Prop):Prop where
 frame:∀i h h',St i h->(∀o,h.get? I=W6 o->h'.get? I=W6 o)->St i h'
 there:∀i h,St i h->∃o,h.get? I=W6 o/\eP o=W8
 item:∀i ads (s:aw) (Q:Option az->aw->Prop) (E:Tv),i<n->St i s.heap->Src ads s.heap->
  (∀v h' tk,aU ads (item i) v->St (i+1) h'->(∀b o,b≠I->s.heap.get? b=W6 o->h'.get? b=W6 o)->Q (W6 v) { s with heap:=h',toks:=tk })->aC (ag pw w) A (pyNext (.ref I)) Q E s
 done:∀ads (s:aw) (Q:Option az->aw->Prop) (E:Tv),St n s.heap->Src ads s.heap->
  (∀h' tk,(∀b o,b≠I->s.heap.get? b=W6 o->h'.get? b=W6 o)->Q W7 { s with heap:=h',toks:=tk })->aC (ag pw w) A (pyNext (.ref I)) Q E s
 self:∀i (s:aw) (Q:Tv) (E:Tv),St i s.heap->Q (.ref I) s->aC (ag pw w) A (pyIter (.ref I)) Q E s
theorem Wk.toC{item:Nat->AV}{P:Nat->az->Prop}{St:Nat->bS->Prop}(W:Wk w A I [] n P St)(hP:∀i v,P i v->∀ads',aU ads' (item i) v):sN w A I n item (λ _ _=>True) St where
 frame:=λ i h h' st hk=>W.frame i h h' st λ b hb=>by rw[dI.mp hb];exact hk
 there:=W.there
 item:=λ i ads s Q E hi st _ q=>W.item i s Q E hi st λ v h' tk hv=>q v h' tk (hP i v hv ads)
 done:=λ _ s Q E st _ q=>W.done s Q E st q
 self:=W.self
def yv(k:Nat)(xs:List AV)(ax:ak)(ads:Ld)(h:bS):Prop:=ads[k]? =W6 ax/\∃vs n,h.get? ax=W6 (W.listOf vs n)/\bk ads xs vs.toList
theorem Io(hh:A.handled=W7)(I ax k:Nat)(TT:ax≠I)(xs:List AV)(item:Nat->AV)(hit:∀i,i<xs.length->item i=xs.getD i .non):sN w A I xs.length item (yv k xs ax) (λ i h=>h.IsListIter I ax i) where
 frame:=λ _ _ _ ⟨o,ho,r⟩ hk=>⟨o,hk o ho,r⟩
 there:=λ _ _ ⟨o,ho,_,hd⟩=>⟨o,ho,by unfold eP;rw[hd]⟩
 item:=λ i ads s Q E hi st ⟨_,vs,n,hg,hc⟩ q=>by
  have hl:xs.length=vs.size:=by rw[hc.len];simp
  refine(sM (w:=w) hh I ax TT vs).item i s Q E (by lia) ⟨st,_,hg,rfl,n,rfl⟩ λ v h' tk hv st' hk=>q v h' tk ?_ st'.1 hk
  rw[hit i hi];exact yq hc hv (cN _)
 done:=λ ads s Q E st ⟨_,vs,n,hg,hc⟩ q=>by
  have hl:xs.length=vs.size:=by rw[hc.len];simp
  exact(sM (w:=w) hh I ax TT vs).done s Q E ⟨hl ▸ st,_,hg,rfl,n,rfl⟩ q
 self:=λ i s Q E st q=>wpAny_pyIter_listiter st q
end
end
section
open PySem.Calls
section
variable{w:aQ}{mg mb:Tm}{C:Cx}{ads:Ld}{σ:AS}{bud:Nat}{F:Cf}
theorem yw(ads:Ld):bz ads (iM ads.length)=ads:=by
 apply List.ext_getElem?;intro k;unfold bz;rw[fy]
 by_cases e:k<ads.length
 ·rw[rZ e,Option.map_some,bP e];rfl
 ·rw[m5 (by rw[kO];exact jF ‹_›),m5 (by exact jF ‹_›)];rfl
theorem yx(h:k∈iM n):k<n:=by
 refine cv (iE h) λ i hi=> ?_;have hl:= (dP.mp hi).1;rw[kO]at hl;rw[rZ hl]at hi
 (injection hi with zq;subst zq);exact hl
theorem sO(h:gn env.cells sc.names []=W6 cl):closureFor sc env=pure cl:=by
 have core:∀(names:List (ab×NameKind)) (acc:List (ab×ak)),gn env.cells names acc=W6 cl->
   (forIn names acc λ x r=>(if (x.2==NameKind.free)=W8 then do let a ←cellOf env x.1;pure (ForInStep.yield ((x.1,a)::r)) else pure (ForInStep.yield r):Sem (ForInStep (List (ab×ak)))))=pure cl:=by
  intro names;induction names with
  | nil=>intro acc h;(injection h with zq;subst zq);rfl
  | cons p r ih=>
   obtain⟨n,k⟩:=p;intro acc h;rw[List.forIn_cons];rw[xw]at h;refine cF (b:=k==NameKind.free) (λ hk=> ?bt) λ hk=> ?bf
   case bt=>
    rw[hk]at h;refine aj (bO.mp h) λ a h1 h2=> ?_;rw[if_pos hk];unfold cellOf;rw[h1];exact ih _ h2
   case bf=>
    rw[hk]at h;rw[if_neg (by rw[hk];decide)]
    exact ih _ h
 have e:closureFor sc env= (forIn sc.names [] λ x r=>(if (x.2==NameKind.free)=W8 then do let a ←cellOf env x.1;pure (ForInStep.yield ((x.1,a)::r)) else pure (ForInStep.yield r):Sem (ForInStep (List (ab×ak))))) >>=λ cs=>pure cs:=rfl
 rw[e,core sc.names [] h];rfl
theorem sP{l1:List (ab×Nat)}{l2:List (ab×ak)}{R:Nat->ak->Prop}(hc:∀x k,l1.lookup x=W6 k->∃a,l2.lookup x=W6 a/\R k a):∀{names:List (ab×NameKind)} {Wl:List (ab×Nat)} {Wj:List (ab×ak)} {cs:List (ab×Nat)},
  gn l1 names Wl=W6 cs->aW (λ p q=>p.1=q.1/\R p.2 q.2) Wl Wj->∃cl,gn l2 names Wj=W6 cl/\aW (λ p q=>p.1=q.1/\R p.2 q.2) cs cl:=by
 intro names;induction names with
 | nil=>intro _ _ _ h ha;injection h with zq;subst zq;exact⟨_,rfl,ha⟩
 | cons p r ih=>
  obtain⟨n,k⟩:=p;intro Wl Wj cs h ha;rw[xw]at h ⊢
  cases hk:k==NameKind.free with
  | true=>
   rw[hk]at h;refine aj (bO.mp h) λ i h1 h2=> ?_;refine aj (hc _ _ h1) λ a e1 e2=> ?_;rw[e1];exact ih h2 (.cons ⟨rfl,e2⟩ ha)
  | false=>rw[hk]at h;exact ih h ha
theorem yy{R:Nat->ak->Prop}{l1:List (ab×Nat)}{l2:List (ab×ak)}(c:aW (λ p q=>p.1=q.1/\R p.2 q.2) l1 l2):l1.lookup x=W6 k->∃a,l2.lookup x=W6 a/\R k a:=by
 induction c with
 | nil=>exact λ h=>nomatch h
 | @cons p q _ _ h1 _ ih=>
  intro h;rw[gO]at h ⊢
  rw[←h1.1];cases e:x==p.1 with
  | true=>rw[e]at h;(injection h with zq;subst zq);exact⟨_,rfl,h1.2⟩
  | false=>rw[e]at h;exact ih h
noncomputable def Cx.inC(C:Cx)(s:aw)(oL:Obj)(fr:Tf)(ads:Ld)(sc:et)(cl:List (ab×ak))(L:ak):Cx:=
 { toDx:=C.under s oL fr ads,qual:=C.qual,scope:=relabel sc C.env,L:=L,fn:=W7,cd:=C.cd,cells:=cl,ini:=ads,fa:=C.fa,comp:=W8 }
theorem aE.inOk{s:aw}{os:Lo}{fr:Tf}{m:Tm}(x:aE C ads σ s os fr m)(ok:bc w mg mb bud C){oL:Obj}(hL:s.heap.get? C.L=W6 oL){sc:et}{cl:List (ab×ak)}{L:ak}(hk:sc.kind= .function):
  bc w mg mb bud (C.inC s oL fr ads sc cl L):=by
 have:=x.underOk ok (ι:=iM ads.length) (λ k hk=>yx hk) hL (ba bud);rw[yw]at this;exact⟨this,hk,λ h=>by contradiction⟩
theorem aE.enter{s:aw}{os:Lo}{fr:Tf}{m:Tm}(x:aE C ads σ s os fr m){oL:Obj}(hL:s.heap.get? C.L=W6 oL){sc:et}{cl:List (ab×ak)}{L:ak}{h':bS}{tk:Nat}{m':Tm}
  (hk:∀b o,s.heap.get? b=W6 o->h'.get? b=W6 o) (hn:h'.Ns L m') (hl:s.heap.objs.size<=L):aE (C.inC s oL fr ads sc cl L) ads ⟨[],σ.objs⟩ { s with heap:=h',toks:=tk } os (C.pre oL++fr) m':=by
 have old:∀b o,s.heap.get? b=W6 o->b≠L:=λ b o e q=>by subst q;exact absurd (ed e) (ij.mpr hl)
 refine⟨x.hgens,x.hdrawn,x.hos,⟨hn,λ b o e=>hk b o (of_hideAll _ e),by show (hideAll s.heap _).objs.size<=L;rw[hideAll_size];exact hl⟩,λ y v e=>(by contradiction),λ p hp=> ?_,x.len,x.objs, ?_, ?_,cN _⟩
 ·have hid:∀b,b∈ads++(C.pre oL++fr).map (·.1)->(C.under s oL fr ads).g.get? b=W7:=λ b h=>hideAll_none _ h
  rcases bV.mp hp with q | q
  ·have N:=x.N p (bU _ q)
   refine aj (js q) λ j h1 _=> ?_;exact⟨hk _ _ N.1,old _ _ N.1,hid _ (bU _ (dH h1))⟩
  ·have hg:s.heap.get? p.1=W6 p.2:=by
    rcases bV.mp q with q | q
    ·rw[Cx.pre_mem q];exact hL
    ·exact(x.N p (cu _ q)).1
   exact⟨hk _ _ hg,old _ _ hg,hid _ (cu _ (gN q))⟩
 ·have hd:=cC.mp x.nd
  rw[eJ];have TI:∀b∈(C.pre oL).map (·.1),b=C.L:=λ b hb=>by
   refine aj (cZ.mp hb) λ p hp zq2=> ?_;subst zq2;rw[Cx.pre_mem hp]
  have hLn:∀b∈ads++fr.map (·.1),b≠C.L:=λ b hb=>by
   rw[←x.keys]at hb;refine aj (cZ.mp hb) λ p hp zq2=> ?_;subst zq2;exact(x.N p hp).2.1
  refine cC.mpr ⟨hd.1,cC.mpr ⟨by unfold Cx.pre;induction C.comp <;> simp,hd.2.1,λ b h1 c h2 e=> ?_⟩,λ b h1 c h2 e=> ?_⟩
  ·rw[TI b h1]at e;exact hLn c (cu _ h2) e.symm
  ·rcases bV.mp h2 with h2 | h2
   ·exact hLn b (bU _ h1) (by rw[e];exact TI c h2)
   ·exact hd.2.2 b h1 c h2 e
 ·exact kN rfl λ k a b h1 h2=>by change (C.pre oL++fr)[k]? =W6 a at h1;rw[h1]at h2;(injection h2 with zq;subst zq);exact⟨rfl,a.2.slots,rfl,λ _=>rfl⟩
theorem aE.leave{s s':aw}{os os':Lo}{fr fr':Tf}{m m':Tm}(x:aE C ads σ s os fr m){oL:Obj}(hL:s.heap.get? C.L=W6 oL){sc:et}{cl:List (ab×ak)}{L:ak}{ads':Ld}{τ:AS}
  (y:aE (C.inC s oL fr ads sc cl L) ads' τ s' os' fr' m'):∃Tg,aE C ads' ⟨σ.loc,τ.objs⟩ s' os' Tg m/\Tg.map (·.1)=fr.map (·.1):=by
 refine lR x.F.ns λ oL' es ep hLo hLd hLk hLf=> ?_;rw[hL]at hLo;obtain rfl:=bQ hLo;have st:=x.stays (ι:=iM ads.length) (λ k hk=>yx hk) oL;rw[yw]at st;have hd:=cC.mp x.nd;have hLn:C.L ∉ ads++fr.map (·.1):=λ q=>by
  rw[←x.keys]at q;refine aj (cZ.mp q) λ p hp e=> ?_;exact(x.N p hp).2.1 e
 have hyn:=y.nd;obtain⟨fr₁,Tg,rfl,hL1,hfr,sl,hLs⟩:∃fr₁ Tg,fr'=fr₁++Tg/\(∀p∈ads'.zip os'++Tg,p.1≠C.L)/\fC fr Tg/\∃sl,s'.heap.get? C.L=W6 { oL with slots:=sl }:=by
  have h1:=y.frs
  change fC (C.pre oL++fr) fr' at h1
  have h2:C.pre oL= (match C.comp with
   | true=> []
   | false=> [(C.L,oL)]):=rfl
  refine cF (b:=C.comp) (λ hc=> ?bt) λ hc=> ?bf
  case bf=>
   rw[hc]at h2;rw[h2]at h1;cases h1 with
   | @cons a b l k q1 q2=>
    have e0:b.1=C.L:=q1.1;refine aj q1.2 λ sl e1 _=> ?_;refine⟨[b],k,rfl,λ p hp e=> ?_,q2,sl, ?_⟩
    ·rw[eW]at hyn
     have hyd:=cC.mp hyn;have hb:b.1=p.1:=e0.trans e.symm;rcases bV.mp hp with q | q
     ·refine aj (js q) λ j h3 _=> ?_
      exact hyd.2.2 p.1 (dH h3) b.1 (.head _) hb.symm
     ·exact(ku.mp hyd.2.1).1 (by rw[hb];exact gN q)
    ·have:= (y.N b (cu _ (.head _))).1
     rw[e0,e1]at this;exact this
  case bt=>
   rw[hc]at h2;rw[h2]at h1;have hg:(C.under s oL fr ads).g.get? C.L=W6 oL:=jm _ hL λ q=>by
    rw[h2]at q;exact hLn q
   refine⟨[],fr',rfl,λ p hp e=> ?_,h1,oL.slots,y.F.keep _ _ hg⟩;have:= (y.N p hp).2.2;rw[e]at this;exact absurd (hg.symm.trans this) (λ q=>by contradiction)
 have N:∀p∈ads'.zip os'++Tg,s'.heap.get? p.1=W6 p.2/\p.1≠C.L/\C.g.get? p.1=W7:=λ p hp=>by
  have hN:=y.N p (by
   rcases bV.mp hp with q | q
   ·exact bU _ q
   ·exact cu _ (cu _ q))
  refine⟨hN.1,hL1 p hp, ?_⟩;cases q:C.g.get? p.1 with
  | none=>rfl
  | some o=>
   have:=st _ _ q;exact absurd (this.symm.trans hN.2.2) (λ q=>by contradiction)
 refine⟨Tg,⟨y.hgens,y.hdrawn,y.hos,⟨⟨{ oL with slots:=sl },es,ep,hLs,hLd,hLk,hLf⟩,λ b o h=>y.F.keep _ _ (st b o h),x.F.above⟩,λ z u h=> ?_,N,y.len,y.objs, ?_,x.frs.trans hfr,x.ini.trans y.ini⟩,hfr.keys⟩
 ·refine aj (x.loc z u h) λ v h1 h2=> ?_
  exact⟨v,h1,h2.mono y.ini⟩
 ·rw[eJ]at hyn
  have hyd:=cC.mp hyn;exact cC.mpr ⟨hyd.1,(cC.mp hyd.2.1).2.1,λ b h1 c h2 e=>hyd.2.2 b h1 c (cu _ h2) e⟩
end
end
section
open PySem.Calls
section
variable{w:aQ}{mg mb:Tm}{C:Cx}{ads:Ld}{σ:AS}{bud:Nat}{F:Cf}
def yz(a:AV)(σ:AS)(objs:La):Prop:=∀k ao,a= .ob k->σ.objs[k]? =W6 ao->nK ao=W9->∃Vx,objs[k]? =W6 Vx/\∀ads o,cy ads Vx o->cy ads ao o
theorem mu(h:gF sc x=W8):sc.names.lookup x=W6 .local:=by
 delta gF at h
 generalize sc.names.lookup x=o at h
 induction o with
 | none=>contradiction
 | some k=>induction k <;> first | contradiction | rfl
structure kX (C:Cx) (σ:AS) (m:Tm) (ads':Ld) (objs:La) (vs:Lv) (D L:ak) (s:aw):Prop where
 rep:∃os fr,aE C ads' ⟨σ.loc,objs⟩ s os fr m/\D ∉ ads'++fr.map (·.1)/\L ∉ ads'++fr.map (·.1)
 list:∃nn,s.heap.get? D=W6 (W.listOf vs.toArray nn)
 dL:D≠C.L
 dg:C.g.get? D=W7
 ns:∃m',s.heap.Ns L m'
 lL:L≠C.L
 lD:L≠D
 lg:C.g.get? L=W7
theorem yA{elt itE:Expr}{x:ab}{px pos:Pos}{sc:et}{cl:List (ab×ak)}{clF:List (ab×Nat)}{a:AV}{u:az}{I:It}{use:Option (az->Sem Unit)}{E:Tv}{Qv:Tv}
  {s:aw} {os:Lo} {fr:Tf} {m:Tm} {J:Nat->List ak->List AO->List AV->Prop}
  (ok:bc w mg mb bud C) (hh:C.hdl=W7) (WE:nM sc=W8) (hx:gF sc x=W8) (X:aE C ads σ s os fr m) (hI:iy σ a I) (hsz:I.n<=1048576) (ha:aU ads a u)
  (hF:∀C',C'.ini=ads->C'.scope=relabel sc C.env->C'.hdl=C.hdl->C'.qual=C.qual->C'.cells=cl->FC w (ju F sc clF ads.length) C')
  (J0:J 0 ads σ.objs [])
  (WC:∀C',bc w mg mb bud C'->FC w (ju F sc clF ads.length) C'->∀i ads' objs acc vs s,i<I.n->J i ads' objs acc->bK C' ads' ⟨[(x,I.item i)],objs⟩ s->bk ads' acc vs->
   ai (ag pw w) C'.A (aZ elt C'.env) (λ u s'=>∃T7 objs' acc',bK C' T7 ⟨[],objs'⟩ s'/\bk T7 acc' (vs++ [u])/\J (i+1) T7 objs' acc') (λ _ _=>False) s)
  (hsrc:∀i ads' objs acc,J i ads' objs acc->yz a σ objs)
  (fin:∀ads' objs acc vs D L s',J I.n ads' objs acc->bk ads' acc vs->ads <+:ads'->kX C σ m ads' objs vs D L s'->compPost (ag pw w) C.A E use Qv (.ref D) L (.ok .next) s'):
  aC (ag pw w) C.A (pyIter u) (λ it SP=>aC (ag pw w) C.A (newList []) (λ acc s₃=>aC (ag pw w) C.A (newFunctionEnv sc C.env.globals cl [] C.env.qual W7 .none (W6 C.env)) (λ cenv TB=>
   cf (ag pw w) C.A (.compStart (.ListComp elt [⟨.Name x px,itE, [],0⟩] sc pos) 0 it acc { cenv with scope:=relabel sc C.env }) (compPost (ag pw w) C.A E use Qv acc cenv.locals) TB) E s₃) E SP) E s:=by
 refine lR (id X.F.ns) λ oL es ep hL hLd hLk hLf=> ?_;have hsck:sc.kind= .function:=by
  have:= (bE.mp WE).1
  simpa using this
 have hcellN:∀y∈sc.names,y.2≠ .cell:=λ y hy q=>by
  have:=i8.mp (bE.mp WE).2 y hy;rw[q]at this;contradiction
 have hxl:=mu hx;have lt:∀b o,s.heap.get? b=W6 o->b<s.heap.objs.size:=λ b o e=>ed e;have Uv:∀b,s.heap.objs.size<=b->C.g.get? b=W7:=λ b hb=>by
  cases q:C.g.get? b with
  | none=>rfl
  | some o=>exact absurd (lt _ _ (X.F.keep _ _ q)) (ij.mpr hb)
 have Uw:∀b,s.heap.objs.size<=b->b≠C.L:=λ b hb e=>absurd (lt _ _ hL) (ij.mpr (e ▸ hb));have main:∀(o:Obj) (Src:List ak->bS->Prop) (St:Nat->bS->Prop),sN w C.A s.heap.objs.size I.n I.item Src St->
   (∀C' i ads' objs acc loc s' os' fr' m',J i ads' objs acc->ads <+:ads'->aE C' ads' ⟨loc,objs⟩ s' os' fr' m'->Src ads' s'.heap)->eP o=W8->o.isFreed=W9->St 0 (s.heap.push o)->
   aC (ag pw w) C.A (newList []) (λ acc s₃=>aC (ag pw w) C.A (newFunctionEnv sc C.env.globals cl [] C.env.qual W7 .none (W6 C.env)) (λ cenv TB=>
    cf (ag pw w) C.A (.compStart (.ListComp elt [⟨.Name x px,itE, [],0⟩] sc pos) 0 (.ref s.heap.objs.size) acc { cenv with scope:=relabel sc C.env }) (compPost (ag pw w) C.A E use Qv acc cenv.locals) TB) E s₃) E { s with heap:=s.heap.push o }:=by
  intro o Src St wk hS fo al oJ;refine oX (wpAny_newFunctionEnv hcellN (by intro y hy;simp at hy) (λ h₁ hns₁ hsb₁=> ?_) hsck)
  dsimp only at hns₁ hsb₁ ⊢
  generalize hH1:s.heap.push o=H1 at hns₁ hsb₁ oJ ⊢
  have eD:H1.objs.size=s.heap.objs.size+1:=by rw[←hH1,iG]
  generalize W0:H1.push { cls:= .type "list",dict:=W7,data:= .seq ([]:Lv).toArray }=H2 at hns₁ hsb₁ ⊢
  have eL:H2.objs.size=s.heap.objs.size+2:=by rw[←W0,iG,eD]
  generalize hD:H1.objs.size=D at eD ⊢
  generalize hLL:H2.objs.size=L at eL hns₁ hsb₁ ⊢
  have lID:s.heap.objs.size<D:=by lia
  have lDL:D<L:=by lia
  have lIL:s.heap.objs.size<L:=by lia
  have nID:s.heap.objs.size≠D:=fj lID;have Wu:D≠L:=fj lDL;have nIL:s.heap.objs.size≠L:=fj lIL;have Wr:∀b o',s.heap.get? b=W6 o'->H2.get? b=W6 o':=λ b o' e=>W0 ▸ dt _ (hH1 ▸ dt _ e);have neL:∀b,b<L->b≠L:=λ b hb=>fj hb;have keep₁:∀b o',s.heap.get? b=W6 o'->h₁.get? b=W6 o':=λ b o' e=>hsb₁.extBut b o' (fj (Nat.lt_trans (lt _ _ e) lIL)) (dt _ (Wr b o' e));have gI:h₁.get? s.heap.objs.size=W6 o:=hsb₁.extBut _ _ nIL (dt _ (W0 ▸ dt _ (hH1 ▸ fx _ al)));have gD:h₁.get? D=W6 (W.listOf #[] 0):=hsb₁.extBut _ _ Wu (dt _ (W0 ▸ hD ▸ fx _ rfl));have st₁:St 0 h₁:=wk.frame _ _ _ oJ λ o' e=>hsb₁.extBut _ _ nIL (dt _ (W0 ▸ dt _ e));have X0:=X.enter (sc:=sc) (cl:=cl) (L:=L) (tk:=s.toks+0) hL keep₁ hns₁ (by exact f_ ‹_›)
  have Ve:bc w mg mb bud (C.inC s oL fr ads sc cl L):=X.inOk ok hL hsck;have Wn:∀b,s.heap.objs.size<=b->(C.inC s oL fr ads sc cl L).g.get? b=W7:=λ b hb=>by
   cases q:(C.inC s oL fr ads sc cl L).g.get? b with
   | none=>rfl
   | some o'=>exact absurd (lt _ _ (of_hideAll _ q)) (ij.mpr hb)
  have keyLt:∀b∈ads++(C.pre oL++fr).map (·.1),b<s.heap.objs.size:=λ b hb=>by
   refine c_ (bV.mp hb) (λ q=> ?_) (λ q=> ?_)
   ·have:b∈ads++fr.map (·.1):=bU _ q
    rw[←X.keys]at this;refine aj (cZ.mp this) λ p hp zq2=> ?_;subst zq2;exact lt _ _ (X.N p hp).1
   ·rw[eJ]at q
    refine c_ (bV.mp q) (λ q=> ?_) (λ q=> ?_)
    ·refine aj (cZ.mp q) λ p hp zq2=> ?_
     subst zq2;rw[Cx.pre_mem hp];exact lt _ _ hL
    ·have:b∈ads++fr.map (·.1):=cu _ q
     rw[←X.keys]at this;refine aj (cZ.mp this) λ p hp zq2=> ?_;subst zq2;exact lt _ _ (X.N p hp).1
  have loop:cf (ag pw w) C.A (.compLoop (.ListComp elt [⟨.Name x px,itE, [],0⟩] sc pos) 0 (.ref s.heap.objs.size) (.ref D) (C.inC s oL fr ads sc cl L).env) (compPost (ag pw w) C.A E use Qv (.ref D) L) { s with heap:=h₁,toks:=s.toks+0 }:=by
   obtain⟨V,to,of⟩:∃V:Nat->aw->Prop,(∀k s',V k s'->∃i ads' objs acc vs nn oI os' fr' m',k=I.n+1 - i/\i<=I.n/\aE (C.inC s oL fr ads sc cl L) ads' ⟨[],objs⟩ s' os' fr' m'/\J i ads' objs acc/\St i s'.heap/\bk ads' acc vs/\vs.length=i/\(∀p∈ [(s.heap.objs.size,oI),(D,W.listOf vs.toArray nn)],s'.heap.get? p.1=W6 p.2/\p.1≠L/\(C.inC s oL fr ads sc cl L).g.get? p.1=W7)/\((ads'++fr'.map (·.1))++ [s.heap.objs.size,D]).Nodup)/\(∀i s' ads' objs acc vs nn oI os' fr' m',i<=I.n->aE (C.inC s oL fr ads sc cl L) ads' ⟨[],objs⟩ s' os' fr' m'->J i ads' objs acc->St i s'.heap->bk ads' acc vs->vs.length=i->(∀p∈ [(s.heap.objs.size,oI),(D,W.listOf vs.toArray nn)],s'.heap.get? p.1=W6 p.2/\p.1≠L/\(C.inC s oL fr ads sc cl L).g.get? p.1=W7)->((ads'++fr'.map (·.1))++ [s.heap.objs.size,D]).Nodup->V (I.n+1 - i) s'):=
    ⟨_,λ _ _ h=>h,λ i s' ads' objs acc vs nn oI os' fr' m' a b c d e f g h=>⟨i,ads',objs,acc,vs,nn,oI,os',fr',m',rfl,a,b,c,d,e,f,g,h⟩⟩
   refine EW V ?_ (I.n+1) (of 0 _ ads σ.objs [] [] 0 o os (C.pre oL++fr) _ (Nat.zero_le _) X0 J0 st₁ .nil rfl ?_ ?_)
   ·intro k s' hV
    obtain⟨i,ads',objs,acc,vs,nn,oI,os',fr',m',rfl,hi,Y,hJ,Ug,hc,hvl,hE,hn⟩:=to k s' hV
    clear hV to
    have hDI:D≠s.heap.objs.size:=Ne.symm nID;have hn2:= (cC.mp hn).2.2;have offB:∀(B:ak),(B=s.heap.objs.size∨B=D)->∀{h':bS} {tk:Nat},(∀b o,b≠B->s'.heap.get? b=W6 o->h'.get? b=W6 o)->aE (C.inC s oL fr ads sc cl L) ads' ⟨[],objs⟩ { s' with heap:=h',toks:=tk } os' fr' m':=λ B hB h' tk hk=>
     Y.off λ b o hb Ut=>hk b o (λ e=>by
      subst e;have hm:b∈ [s.heap.objs.size,D]:=by rcases hB with rfl | rfl <;> simp
      revert Ut;refine gj (λ q=> ?_) (λ q=> ?_) (λ q=> ?_) (λ q=> ?_)
      ·revert hB
       refine fz (λ zr=> ?_) (λ zr=> ?_)
       ·subst zr
        exact nIL q
       ·subst zr
        exact Wu q
      ·exact hn2 b (bU _ q) b hm rfl
      ·exact hn2 b (cu _ q) b hm rfl
      ·rw[Wn b (by rcases hB with rfl | rfl;exact ba _;exact f_ lID)]at q;contradiction) hb
    by_cases hlt:i<I.n
    ·refine wk.item i ads' s' _ _ hlt Ug (hS _ _ _ _ _ _ _ _ _ _ hJ Y.ini Y) λ v h' tk hv hst' hk=> ?_
     have Y':=offB _ (.inl rfl) (tk:=tk) hk;refine aj (wk.there _ _ hst') λ oI' hI' hfI=> ?_;have hE':∀p∈ [(s.heap.objs.size,oI'),(D,W.listOf vs.toArray nn)],h'.get? p.1=W6 p.2/\p.1≠L/\(C.inC s oL fr ads sc cl L).g.get? p.1=W7:=λ p hp=>by
      refine c_ (bR.mp hp) (λ zr=> ?_) (λ hp=> ?_)
      ·subst zr
       exact⟨hI',(hE (s.heap.objs.size,oI) (.head _)).2⟩
      ·rw[dI.mp hp]
       have f:=hE (D,W.listOf vs.toArray nn) (.tail _ (.head _));exact⟨hk _ _ hDI f.1,f.2⟩
     have hf':∀p∈ [(s.heap.objs.size,oI'),(D,W.listOf vs.toArray nn)],eP p.2=W8:=λ p hp=>by
      refine c_ (bR.mp hp) (λ zr=> ?_) (λ hp=> ?_)
      ·subst zr
       exact hfI
      ·rw[dI.mp hp];rfl
     have Z:=Y'.hide hE' hn;refine wpAny_assign_Name (rh (lookup_relabel_local hxl) Z.F.ns (λ VT hn'' hs''=> ?_) (nX (C:=C.inC s oL fr ads sc cl L) hsck));have Z2:=Z.store (tk:=tk+1) (y:=x) (av:=I.item i) hn'' hs'' hv;refine aK (WC ((C.inC s oL fr ads sc cl L).plus [(s.heap.objs.size,oI'),(D,W.listOf vs.toArray nn)]) (yn Ve) (hF _ rfl rfl rfl rfl rfl) i ads' objs acc vs _ hlt hJ ⟨_,_,_,Z2⟩ hc) (λ r TB TM=> ?_) λ _ _ e=>e.elim;revert TM;refine gi λ Vq UY acc₅ Tp hc₅ hJ₅=> ?_;revert Tp;refine dk λ VJ fr₅ m₅ X₅=> ?_;refine rm (X₅.unhide hf') λ VU SY X₆ U4 hn₆=> ?_;subst SY;have g6:= (U4 (D,W.listOf vs.toArray nn) (.tail _ (.head _))).1;refine wpAny_list_append_plain (items:=vs.toArray) ⟨nn,g6⟩ (λ Wx hp₇ hs₇=> ?_) (by rw[List.size_toArray,hvl,gT];lia)
     revert hp₇;refine dw λ n7 g7=> ?_;have hn62:= (cC.mp hn₆).2.2;have X₇:aE (C.inC s oL fr ads sc cl L) Vq ⟨[],UY⟩ { TB with heap:=Wx } VJ VU m₅:=X₆.off (tk:=TB.toks) λ b o hb Ut=>hs₇.extBut b o (λ e=>by
      subst e;have hm:b∈ [s.heap.objs.size,b]:=by simp
      revert Ut;refine gj (λ q=> ?_) (λ q=> ?_) (λ q=> ?_) (λ q=> ?_)
      ·exact Wu q
      ·exact hn62 b (bU _ q) b hm rfl
      ·exact hn62 b (cu _ q) b hm rfl
      ·rw[Wn b (f_ lID)]at q;contradiction) hb
     have gI7:Wx.get? s.heap.objs.size=W6 oI':=hs₇.extBut _ _ (Ne.symm hDI) (U4 (s.heap.objs.size,oI') (.head _)).1;refine⟨I.n+1 - (i+1),Nat.sub_lt_sub_left (jD hlt) (ic i),of (i+1) _ Vq UY acc₅ (vs++ [r]) n7 oI' VJ VU m₅ hlt X₇ hJ₅ (wk.frame _ _ _ hst' λ o' e=>by rw[hI']at e;(injection e with zq;subst zq);exact gI7) hc₅ (by simp[hvl]) (λ p hp=> ?_) hn₆⟩
     refine c_ (bR.mp hp) (λ zr=> ?_) (λ hp=> ?_)
     ·subst zr
      exact⟨gI7,(U4 (s.heap.objs.size,oI') (.head _)).2⟩
     ·rw[dI.mp hp]
      refine⟨?_,(U4 (D,W.listOf vs.toArray nn) (.tail _ (.head _))).2⟩;rw[show (vs++ [r]).toArray=vs.toArray.push r by simp]
      exact g7
    ·obtain rfl:i=I.n:=by lia
     refine wk.done ads' s' _ _ Ug (hS _ _ _ _ _ _ _ _ _ _ hJ Y.ini Y) λ h' tk hk=> ?_;have Y':=offB _ (.inl rfl) (tk:=tk) hk;refine aj (X.leave hL Y') λ Tg Z hkeys=> ?_;have WV:∀b∈fr.map (·.1),b∈fr'.map (·.1):=λ b hb=>by
      have:=Y'.frs.keys
      change fr'.map (·.1)= (C.pre oL++fr).map (·.1) at this
      rw[this,eJ];exact cu _ hb
     refine fin ads' objs acc vs D L _ hJ hc Y.ini ⟨⟨os',Tg,Z,λ q=> ?_,λ q=> ?_⟩,⟨nn,hk _ _ hDI (hE (D,W.listOf vs.toArray nn) (.tail _ (.head _))).1⟩,Uw _ (f_ lID),Uv _ (f_ lID),⟨_,Y'.F.ns⟩,Uw _ (f_ lIL),Ne.symm Wu,Uv _ (f_ lIL)⟩
     ·rw[hkeys]at q
      refine hn2 D ?_ D (by simp) rfl
      refine c_ (bV.mp q) (λ q=> ?_) (λ q=> ?_)
      ·exact bU _ q
      ·exact cu _ (WV _ q)
     ·rw[hkeys]at q
      have:L∈(ads'.zip os'++fr').map (·.1):=by
       rw[Y.keys];refine c_ (bV.mp q) (λ q=> ?_) (λ q=> ?_)
       ·exact bU _ q
       ·exact cu _ (WV _ q)
      refine aj (cZ.mp this) λ p hp e=> ?_;exact(Y.N p hp).2.1 e
   ·intro p hp
    refine c_ (bR.mp hp) (λ zr=> ?_) (λ hp=> ?_)
    ·subst zr
     exact⟨gI,nIL,Wn _ (ba _)⟩
    ·rw[dI.mp hp]
     exact⟨gD,Wu,Wn _ (f_ lID)⟩
   ·refine cC.mpr ⟨X0.nd,by simpa using nID,λ b h1 c h2 e=> ?_⟩
    have h3:=keyLt b h1;subst e;refine c_ (bR.mp h2) (λ q=> ?_) (λ q=> ?_)
    ·exact absurd h3 (by rw[q];exact gR _)
    ·rw[dI.mp q]at h3;exact absurd (Nat.lt_trans h3 lID) (gR _)
  exact EV loop (wk.self 0 _ _ _ st₁ loop)
 refine yu hh hI hsz ha X (λ o P St wk hP hr fo al st=> ?_) λ k ao xs ax vs n e hk hxs hn hit hax h2 hc h4=> ?_
 ·exact main o _ St (wk.toC hP) (λ _ _ _ _ _ _ _ _ _ _ _ _ _=>trivial) fo al st
 ·have TT:ax≠s.heap.objs.size:=fj (lt _ _ h4)
  refine main _ (yv k xs ax) _ (hn ▸ Io hh _ _ k TT xs I.item hit) (λ C' i ads' objs acc loc s' os' fr' m' hJ hp Y=> ?_) rfl rfl ⟨_,fx _ rfl,rfl,rfl⟩;have hrng:nK ao=W9:=by induction ao <;> first | rfl | contradiction
  refine aj (hsrc i ads' objs acc hJ k ao e hk hrng) λ Vx h1 h2=> ?_;have hax':=dB hp hax;refine cO (dZ Y hax' h1) λ o _ r1 g1=> ?_;refine cY (xZ hxs (h2 _ _ r1)) λ vs' n' zq2 c=> ?_;subst zq2;exact⟨hax',vs',n',g1,c⟩
end
end
section
open PySem.Calls
section
variable{w:aQ}{mg mb:Tm}{C:Cx}{ads:Ld}{σ:AS}{bud:Nat}{F:Cf}{Q:Ta}{R:Tn}
theorem kY(he:noStar e=W8)(r:List Expr)(pos:Pos)(env:Env):backTo pos (fO (e::r) env)= (W9,aZ e env)::backTo pos (fO r env):=by
 cases e <;> first | rfl | contradiction
theorem yB:∀{es:List Expr},es.all noStar=W8->(backTo pos (fO es env)).any (·.1)=W9:=by
 intro es;induction es with
 | nil=>
  intro _;exact rfl
 | cons e r ih=>
  intro h;obtain⟨h1,h2⟩:=bE.mp (by rw[jI]at h;exact h)
  rw[kY h1,List.any_cons,ih h2];rfl
theorem yC:∀{es:List Expr},es.all noStar=W8->(backTo pos (fO es env)).all (λ x=> !x.1)=W8:=by
 intro es;induction es with
 | nil=>
  intro _;exact rfl
 | cons e r ih=>
  intro h;obtain⟨h1,h2⟩:=bE.mp (by rw[jI]at h;exact h)
  rw[kY h1,jI,ih h2];rfl
theorem sQ(h:kV o=W8):attributeBase o name env t=t:=by
 cases o <;> first | rfl | contradiction
theorem Ip{A:dj}{E:Tv}{args:List Expr}{Q:Tv}
  (hb:kV o=W8) (UE:(apos.endLine==pos.line)=W8) (UH:dT args.length 29=W8) (hs:args.all noStar=W8)
  (h:aC (ag pw w) A (aZ o env) (λ ov s₁=>∀pl,aC (ag pw w) A (getMethod ov name pl) (λ p SP=>aC (ag pw w) A (callWith pos p.1 p.2 (backTo pos (fO args env)) []) Q E SP) E s₁) E s):
  aC (ag pw w) A (aZ (.Call (.Attribute o name apos) args [] pos) env) Q E s:=by
 rw[arm_eval_Call,sQ hb];refine aB (el h (λ ov s₁ h₁=> ?_) λ _ _ e=>e);refine aB (wpAny_standAt ?_);have hform:methodCallForm (args.length+([]:List Keyword).length) (backTo pos (fO args env)) (backToKw pos (keywordEach [] env))=W8:=by
  unfold methodCallForm;have hlt:args.length<29:=by simpa[gh] using UH
  have:(backTo pos (fO args env)).all (λ x=> !x.1)=W8:=yC hs;simp only[this,Bool.true_and,fM,Nat.add_zero];show ((W8 && W_ (args.length+0<30))=W8);simp;lia
 have hpos:methodCallPos W8 o env apos pos=pure pos:=by unfold methodCallPos;simp[UE]
 unfold methodCall;rw[hform];refine aB (f9 (el (h₁ _) (λ p SP h₂=> ?_) λ _ _ e=>e));exact aB (eO hpos h₂)
def sR(w:aQ)(f:az):Prop:=∀h:bS,(K0 w.params).In h->∃k,(k=Keeper.frame∨k=Keeper.machine∨k=Keeper.boundFrame)/\Looks (ag pw w) h (keeperOf f) k
theorem Iq{A:dj}{E:Tv}{args:List Expr}{Q:Tv}
  (hb:kV o=W8) (UE:(apos.endLine==pos.line)=W8) (UH:dT args.length 29=W8) (hs:args.all noStar=W8)
  (h:ai (ag pw w) A (aZ o env) (λ ov s₁=>∀pl,aC (ag pw w) A (getMethod ov name pl) (λ p SP=>ai (ag pw w) A (callWith pos p.1 p.2 (backTo pos (fO args env)) []) Q E SP) E s₁) E s):
  ai (ag pw w) A (aZ (.Call (.Attribute o name apos) args [] pos) env) Q E s:=by
 rw[arm_eval_Call,sQ hb];refine aA (aK h (λ ov s₁ h₁=> ?_) λ _ _ e=>e);refine b9 ?_;have hform:methodCallForm (args.length+([]:List Keyword).length) (backTo pos (fO args env)) (backToKw pos (keywordEach [] env))=W8:=by
  unfold methodCallForm;have hlt:args.length<29:=by simpa[gh] using UH
  have:(backTo pos (fO args env)).all (λ x=> !x.1)=W8:=yC hs;simp only[this,Bool.true_and,fM,Nat.add_zero];show ((W8 && W_ (args.length+0<30))=W8);simp;lia
 have hpos:methodCallPos W8 o env apos pos=pure pos:=by unfold methodCallPos;simp[UE]
 unfold methodCall;rw[hform];refine bX (f9 (el (h₁ _) (λ p SP h₂=> ?_) λ _ _ e=>e));exact aA (lT hpos h₂)
theorem qj{id:String}:sR w (.builtin id):=λ _ _=>⟨.machine, .inr (.inl rfl),Looks.of_pure rfl⟩
theorem Ir{id:String}:sR w (.type id):=λ _ _=>⟨.machine, .inr (.inl rfl),Looks.of_pure rfl⟩
theorem sS{e:Expr}{v:AV}{A:dj}{QQ:Tv}{E:Tv}{s:aw}{os:Lo}{fr:Tf}{m:Tm}(ok:bc w mg mb bud C)(fc:FC w F C)(X:aE C ads σ s os fr m)(hv:gC F σ e=W6 v)
  (q:∀u tk,aU ads v u->QQ u { s with toks:=tk }):aC (ag pw w) A (aZ e C.env) QQ E s:=by
 cases e with
 | Constant c k pos=>
  have hv:pq c=W6 v:=hv;induction c with
  | none=>(injection hv with zq;subst zq);exact wpAny_Constant_none (q _ s.toks rfl)
  | bool b=>(injection hv with zq;subst zq);exact wpAny_Constant_bool (q _ s.toks rfl)
  | int i=>(injection hv with zq;subst zq);exact wpAny_Constant_int (q _ _ ⟨_,rfl⟩)
  | str x=>(injection hv with zq;subst zq);exact wpAny_Constant_str (q _ _ ⟨_,rfl⟩)
  | bytes b=>
   injection hv with zq;subst zq
   have e:cx (b.map UInt8.toNat)=b.toArray:=by
    unfold cx;rw[List.map_map]
    congr 1
    conv=>rhs;rw[←List.map_id b]
    apply List.map_congr_left;intro a _;simp
   exact PySem.W.Constant_bytes (q _ (s.toks+1) ⟨λ x hx=>by obtain⟨y,_,rfl⟩:=cZ.mp hx;exact y.toNat_lt,s.toks,by rw[e]⟩)
  | _=>injection hv
 | Name x pos=>
  have hv:(match !(x== ("__debug__" :ab)) && !(x== ("__classdict__" :ab)) with
   | true=>jR F σ x
   | false=>W7)=W6 v:=hv
  refine cF (b:= !(x== ("__debug__" :ab)) && !(x== ("__classdict__" :ab))) (λ hn=> ?bt) λ hn=> ?bf
  case bf=>rw[hn]at hv;contradiction
  case bt=>
   rw[hn]at hv;refine aI (bE.mp hn) λ h1 h2=> ?_;have hd:=mn h1;have hc:=mn h2;have ret:∀u,aU ads v u->QQ u s:=λ u hu=>q u s.toks hu;have h:jR F σ x=W6 v:=hv;unfold jR at h;rw[fc.scope]at h;refine cL (o:=C.scope.names.lookup x) (λ e=> ?on) λ kd e=> ?os
   case on=>rw[e]at h;contradiction
   case os=>
    rw[e]at h;induction kd <;> simp only at h <;> try contradiction
    ·refine aj (X.loc _ _ h) λ u h1 h2=> ?_
     exact wpAny_Name (wpAny_loadName_local ok.kind e X.F.ns h1 (ret u h2)) hd
    ·refine dY (qc fc X h) λ a u e1 e2 e3=> ?_
     exact wpAny_Name (wpAny_loadName_cell ok.kind e e1 e2 (ret u e3)) hd
    ·refine dY (qc fc X h) λ a u e1 e2 e3=> ?_
     exact wpAny_Name (wpAny_loadName_free ok.kind e e1 e2 (ret u e3) hc) hd
    ·exact sD ok h X.F ok.kind e rfl rfl hd ret
 | _=>contradiction
theorem sT(ok:bc w mg mb bud C)(fc:FC w F C)(hv:gC F σ e=W6 v)(h:Q v σ):WA w C ads σ (aZ e C.env) RV Q R:=by
 rintro s ⟨os,fr,m,X⟩
 exact sS ok fc X hv λ u tk hu=>⟨ads,σ,v,cN _,bK.toks ⟨os,fr,m,X⟩ tk,hu,h⟩
theorem Iu(h:gk ads l vs):TriplesOk vs:=by
 induction h with
 | nil=>exact trivial
 | cons _ _ ih=>exact ih
theorem Iv(h:gk ads l vs)(hn:mi p l=W8):codeAmong p vs=W7:=by
 induction h with
 | nil=>rfl
 | @cons a b k x l vs _ _ ih=>
  have hn:(!(aO a p.line && aO b p.col) && mi p l)=W8:=hn;refine aI (bE.mp hn) λ h1 h2=> ?_;have e:((a:Int)== (p.line:Int) && (b:Int)== (p.col:Int))=W9:=by
   apply lN.mpr;intro q;refine aI (bE.mp q) λ q1 q2=> ?_;have q1:a=p.line:=Int.ofNat.inj (eq_of_beq q1);have q2:b=p.col:=Int.ofNat.inj (eq_of_beq q2);subst q1 q2;rw[jl,jl]at h1;contradiction
  show (if ((a:Int)==p.line && (b:Int)==p.col)=W8 then _ else codeAmong p vs)=W7
  rw[e,if_neg (by decide)]
  exact ih h2
theorem Iw{l:List (Nat×Nat×Nat)}{vs:Lv}{a b k:Nat}{x:ak}(h:gk ads l vs)(e:ads[k]? =W6 x):gk ads (l++ [(a,b,k)]) (vs++ [er a,er b, .ref x]):=by
 induction h with
 | nil=>exact .cons e .nil
 | cons e' _ ih=>exact .cons e' ih
theorem yD{α:Type}{l:List α}{x:α}(h:l[k]? =W6 x):l.set k x=l:=by
 apply List.ext_getElem?;intro i
 by_cases hi:i=k
 ·subst hi;rw[h,oR (dP.mp h).1]
 ·rw[List.getElem?_set_ne (Ne.symm hi)]
theorem aE.retype{s:aw}{os:Lo}{fr:Tf}{m:Tm}(x:aE C ads σ s os fr m){k:Nat}{o:Obj}{ao:AO}(ho:os[k]? =W6 o)(hr:cy ads ao o):aE C ads ⟨σ.loc,σ.objs.set k ao⟩ s os fr m:=by
 have:=x.objs.set hr k;rw[yD ho]at this;exact⟨x.hgens,x.hdrawn,x.hos,x.F,x.loc,x.N,x.len,this,x.nd,x.frs,x.ini⟩
theorem yE(X:(K0 P).In h):CodeHd h 619 617:=by
 have:=X 619 v_ (by kernel_rfl)
 exact⟨_,_,_,_,_,_,_,_,_,this,rfl,rfl,rfl,rfl,rfl,rfl,rfl,rfl,by decide⟩
theorem yF(X:(K0 P).In h):CodeHd h 587 585:=by
 have:=X 587 v3 (by kernel_rfl)
 exact⟨_,_,_,_,_,_,_,_,_,this,rfl,rfl,rfl,rfl,rfl,rfl,rfl,rfl,by decide⟩
theorem Iy{P:ak}{s:aw}{os:Lo}{fr:Tf}{m:Tm}(ok:bc w mg mb bud C)(X:aE C ads σ s os fr m)(hP:C.g.get? P=W7):s.heap.BuiltinsAt mg P:=by
 refine u7 ok.bm λ bm ob b1 b2 b3 b4 b5 b6=> ?_;have hbP:bm≠P:=λ q=>by rw[q,hP]at b3;contradiction
 have hbG:bm≠ie:=λ q=>by
  refine kD ok.top.g λ o es ep e hd _=> ?_;rw[q,e]at b3;(injection b3 with zq;subst zq);rw[hd]at b6;contradiction
 exact⟨bm,ob,b1,b2,hbG,hbP,X.F.keep _ _ b3,b4,b5,b6⟩
theorem Iz(ok:bc w mg mb bud C)(fc:FC w F C)(hi:bG i=⟨F.qual++ "<lambda>",ps,b,sc,p⟩)(TR:F.code=W6 ct)
  (V5:(ps.defaults.isEmpty && ps.kw_defaults.isEmpty)=W8) (hl:σ.objs[ct.2]? =W6 (.tab l)) (WK:mi p l=W8) (Wo:gn F.cells sc.names []=W6 cs) (q:Q (.ob (σ.objs.length+1)) (nN σ ct.2 l (F.qual++ "<lambda>") i p cs)):
  WA w C ads σ (aZ (.Lambda ps b sc p) C.env) RV Q R:=by
 rintro s ⟨os,fr,m,X⟩
 refine ni (fc.code _ TR) λ Wc P hP hhd=> ?_;have hPa:=dB X.ini hP;refine cO (dZ X hPa hl) λ oP hoP zq2 gP=> ?_;revert zq2;refine b7 λ vs SY V2=> ?_;subst SY;have hm:(P,eM vs.toArray)∈ads.zip os++fr:=bU _ (eI hPa hoP);have NP:=X.N _ hm;have hgs:=ok.top.g.at' λ o e=>X.F.keep _ _ e;have hgP:ie≠P:=λ e=>by
  refine kD ok.top.g λ o es ep e1 hd _=> ?_;rw[e,NP.2.2]at e1;contradiction
 refine aj (sP (l2:=C.cells) (R:=λ k a=>C.ini[k]? =W6 a) fc.cells Wo .nil) λ cl VF UP=> ?_;have hcl':closureFor sc C.env=pure cl:=sO VF;refine kla_eval ?_ ?_
 ·refine aI (bE.mp V5) λ h1 h2=> ?_
  obtain⟨a1,a2,a3,a4,a5,a6,a7⟩:=ps;have e1:a7= []:=by simpa using h1
  have e2:a5= []:=by simpa using h2
  subst e1 e2;rfl
 ·refine kla_makeFunction (mg:=mg) hcl' rfl hgs Wc (hhd _ (ok.K.keeps X.F.keep)) gP (by simpa using Iu V2) (by simpa using Iv V2 WK) hgP (Iy ok X NP.2.2) λ c' ctv h' tk hx hge hlt hrec htb=> ?_
  revert hrec;refine rq λ c₂ oc cvs t e2 hoc hd hv=> ?_;injection e2 with zq;subst zq
  have lt:∀b o,s.heap.get? b=W6 o->b<s.heap.objs.size:=λ b o e=>ed e;refine jL (id X.F.ns) λ oL es ep hL hLr=> ?_;have Uv:∀b,s.heap.objs.size<=b->C.g.get? b=W7:=λ b hb=>by
   cases q:C.g.get? b with
   | none=>rfl
   | some o=>exact absurd (lt _ _ (X.F.keep _ _ q)) (ij.mpr hb)
  have Uw:∀b,s.heap.objs.size<=b->b≠C.L:=λ b hb e=>absurd (lt _ _ hL) (ij.mpr (e ▸ hb));have hn:=X.nd;have F':Fr C.g C.L h' m:=⟨⟨oL,es,ep,hx _ _ (Ne.symm NP.2.1) hL,hLr⟩,λ b o e=>hx _ _ (λ q=>by rw[q,NP.2.2]at e;injection e) (X.F.keep _ _ e),X.F.above⟩
  have htb':eM (vs.toArray++ #[er p.line,er p.col, .ref c'])=eM (vs++ [er p.line,er p.col, .ref c']).toArray:=by simp
  have X1:aE C ads ⟨σ.loc,σ.objs.set ct.2 (.raw (eM (vs++ [er p.line,er p.col, .ref c']).toArray))⟩ { s with heap:=h',toks:=tk } (os.set ct.2 (eM (vs++ [er p.line,er p.col, .ref c']).toArray)) fr m:=by
   refine X.upd' (tk:=tk) F' (λ q hq=> ?_) rfl;rcases bV.mp hq with hq | hq
   ·rcases rN hq with⟨a',Va,rfl⟩ | ⟨j,hj,h1,h2⟩
    ·rw[hPa]at Va
     obtain rfl:=bQ Va;exact⟨by rw[htb,htb'],NP.2⟩
    ·have N:=X.N _ (bU fr (eI h1 h2))
     exact⟨hx _ _ (λ e=>hj (kJ (cC.mp hn).1 h1 (e ▸ hPa))) N.1,N.2⟩
   ·have N:=X.N q (cu _ hq)
    exact⟨hx _ _ (λ e=>(cC.mp hn).2.2 P (dH hPa) q.1 (gN hq) e.symm) N.1,N.2⟩
  have keyLt:∀b∈ads++fr.map (·.1),b<s.heap.objs.size:=λ b hb=>by
   rw[←X.keys]at hb;refine aj (cZ.mp hb) λ p hp zq2=> ?_;subst zq2;exact lt _ _ (X.N p hp).1
  have X2:=X1.add (tk:=tk) (a:=c') (o:=oc) (ao:= .cod (F.qual++ "<lambda>")) X1.F (λ q hq=>by
   rcases bR.mp hq with rfl | hq
   ·exact⟨hoc,Uw _ hge,Uv _ hge⟩
   ·exact X1.N q hq) (λ hm=>absurd (keyLt _ hm) (ij.mpr hge)) ⟨cvs,t,hd,by rw[fc.qual];exact hv⟩
  have TQ:σ.objs.length=ads.length:=by rw[X.objs.len,X.len]
  have lct:ct.2<σ.objs.length:= (dP.mp hl).1;have lcto:ct.2<os.length:= (dP.mp hoP).1;have X3:=X2.retype (k:=ct.2) (o:=eM (vs++ [er p.line,er p.col, .ref c']).toArray) (ao:= .tab (l++ [(p.line,p.col,σ.objs.length)])) (by rw[ib (by rw[o6];exact lcto),oR lcto])
   ⟨_,rfl,Iw (V2.mono (c9 _ _)) (by rw[TQ];simp)⟩
  have X4:=X3.push (tk:=tk) (ao:= .lam i σ.objs.length cs) (o:=pg (bG i) cl ((mg "__name__").getD .none) c' ctv) rfl ⟨cl,_,c',ctv,by rw[ib (by simp;lia)];rw[TQ];simp,
   aW.mono (λ _ _ x=>⟨x.1,dB (X.ini.trans ((c9 _ _).trans (c9 _ _))) x.2⟩) UP,rfl⟩
  have e:(((σ.objs.set ct.2 (.raw (eM (vs++ [er p.line,er p.col, .ref c']).toArray)))++ [Xo (F.qual++ "<lambda>")]).set ct.2 (.tab (l++ [(p.line,p.col,σ.objs.length)])))++ [Xp i σ.objs.length cs]=
    σ.objs.set ct.2 (.tab (l++ [(p.line,p.col,σ.objs.length)]))++ [.cod (F.qual++ "<lambda>"), .lam i σ.objs.length cs]:=by
   rw[List.set_append_left _ _ (by rw[o6];exact lct),List.set_set,cS];rfl
  have e2:(kla_obj "<lambda>" (C.env.qual++ "<lambda>") ps b sc cl ((mg "__name__").getD .none) c' ctv)=pg (bG i) cl ((mg "__name__").getD .none) c' ctv:=by rw[hi,fc.qual];rfl
  rw[e2];have X5:bK C (ads++ [c']++ [h'.objs.size]) (nN σ ct.2 l (F.qual++ "<lambda>") i p cs) { s with heap:=h'.push (pg (bG i) cl ((mg "__name__").getD .none) c' ctv),toks:=tk }:=by
   have X6:bK C (ads++ [c']++ [h'.objs.size]) _ _:=⟨_,fr,m,X4⟩;rw[e]at X6;exact X6
  exact⟨ads++ [c']++ [h'.objs.size],nN σ ct.2 l (F.qual++ "<lambda>") i p cs, .ob (σ.objs.length+1),(c9 _ _).trans (c9 _ _),X5,⟨h'.objs.size,by rw[TQ];simp,rfl⟩,q⟩
theorem yG(h:kW k=W6 i):∃a b,k=W6 (.Constant (.int i) a b):=by
 refine aj (bO.mp h) λ e SY h=> ?_;subst SY;cases e with
 | Constant c k p=>
  induction c with
  | int j=>(injection h with zq;subst zq);exact⟨_,_,rfl⟩
  | _=>contradiction
 | _=>contradiction
inductive kZ (ads:Ld):List Int->List AV->List (az×az)->Prop
 | nil:kZ ads [] [] []
 | cons {i t v u is vs ps}:aU ads v u->kZ ads is vs ps->kZ ads (i::is) (v::vs) ((.int i t,u)::ps)
theorem IA(ok:bc w mg mb bud C)(fc:FC w F C):∀{ks:List (Option Expr)} {es:List Expr} {is:List Int} {vs:List AV} {QQ:List (az×az)->aw->Prop} {s:aw} {os:Lo} {fr:Tf} {m:Tm},
  bZ kW ks=W6 is->bZ (gC F σ) es=W6 vs->is.length=es.length->aE C ads σ s os fr m->(∀ps tk,kZ ads is vs ps->QQ ps { s with toks:=tk })->aC (ag pw w) A (evalPairs (pairTrees ks es C.env pos)) QQ E s:=by
 intro ks;induction ks with
 | nil=>
  intro es is vs QQ s os fr m h1 h2 hl X q;injection h1 with zq;subst zq
  induction es with
  | cons _ _=>contradiction
  | nil=>
   injection h2 with zq;subst zq
   exact bW (q [] s.toks .nil)
 | cons k ks ih=>
  intro es is vs QQ s os fr m h1 h2 hl X q;cases es with
  | nil=>
   refine aj (bO.mp h1) λ b _ h4=> ?_;refine aj (ez.mp h4) λ z _ zq2=> ?_;subst zq2;contradiction
  | cons e es=>
  refine aj (bO.mp h1) λ i h3 h4=> ?_;refine aj (ez.mp h4) λ is h5 zq2=> ?_;subst zq2;refine aj (bO.mp h2) λ v h6 h7=> ?_;refine aj (ez.mp h7) λ vs h8 zq2=> ?_;subst zq2;obtain⟨kc,kp,rfl⟩:∃a b,k=W6 (.Constant (.int i) a b):=yG h3;show aC _ _ (aZ (.Constant (.int i) kc kp) C.env >>=λ kv=>fR [kv] (aZ e C.env >>=λ x=>standAt pos >>=λ _=>pure x) >>=λ vv=>fR [kv,vv] (evalPairs (pairTrees ks es C.env pos)) >>=λ r=>pure ((kv,vv)::r)) _ _ _;refine aB (wpAny_Constant_int (aB (f9 (aB ?_))));have X1:=X.off (h':=s.heap) (tk:=s.toks+1) λ b o hb _=>hb;refine sS ok fc X1 h6 λ u tk hu=>aB (wpAny_standAt (bW ?_));have X2:=X1.off (h':=s.heap) (tk:=tk) λ b o hb _=>hb;refine aB (f9 ?_);exact ih h5 h8 (by simpa using hl) X2 λ ps tk' hp=>bW (q _ tk' (.cons hu hp))
theorem IB(h:kZ ads is vs ps):allIntKeys ps=W8/\(intKeyPairs ps).map (·.1)=is:=by
 induction h with
 | nil=>exact⟨rfl,rfl⟩
 | cons _ _ ih=>exact⟨ih.1,by show _::_=_;rw[ih.2]⟩
theorem sU(h:jt v=W8)(c:aU ads v u):∃d,datumOf u=W6 d/\∀u',PyProof.V.Flat u' d->aU ads v u':=by
 cases v <;> first | cases h | skip
 ·obtain⟨t,rfl⟩:=c;exact⟨_,rfl,λ u' f=>f.int_inv⟩
 ·obtain⟨t,rfl⟩:=c;exact⟨_,rfl,λ u' f=>f.str_inv⟩
theorem IC(h:kZ ads is vs ps)(hp:vs.all jt=W8):allFlat ps=W8:=by
 induction h with
 | nil=>rfl
 | cons c _ ih=>
  rw[jI]at hp;refine aI (bE.mp hp) λ h1 h2=> ?_;refine aj (sU h1 c) λ d hd _=> ?_;show ((datumOf _).isSome && allFlat _)=W8;rw[hd,ih h2];rfl
theorem ID(h:kZ ads is vs ps)(hp:vs.all jt=W8)(WY:∀u',PyProof.V.Flat u' dd->aU ads d u')(q:mh i is vs d σ Q)(hu:PyProof.V.Flat u ((PySem.Spec.lookup (.int i) (intData ps)).getD dd)):
  ∃v,aU ads v u/\Q v σ:=by
 induction h with
 | nil=>exact⟨d,WY u hu,q⟩
 | @cons j t v uv is vs ps c _ ih=>
  rw[jI]at hp;refine aI (bE.mp hp) λ h1 h2=> ?_;refine aj (sU h1 c) λ e he hb=> ?_;have q:cond (W_ (i=j)) (Q v σ) (mh i is vs d σ Q):=q;have hl:PySem.Spec.lookup (.int i) (intData ((.int j t,uv)::ps))=if PySem.Spec.same (.int j) (.int i)=W8 then W6 e else PySem.Spec.lookup (.int i) (intData ps):=by
   show PySem.Spec.lookup (.int i) ((.int j,(datumOf uv).getD .none)::intData ps)=_;rw[he];rfl
  rw[hl]at hu
  by_cases hij:i=j
  ·subst hij
   rw[decide_eq_true rfl]at q;have:PySem.Spec.same (.int i) (.int i)=W8:=by rw[PyProof.V.same_int];simp
   rw[if_pos this]at hu;exact⟨v,hb u hu,q⟩
  ·rw[decide_eq_false hij]at q
   have: ¬ PySem.Spec.same (.int j) (.int i)=W8:=by rw[PyProof.V.same_int];simp;exact λ e=>hij e.symm
   rw[if_neg this]at hu;exact ih h2 q hu
theorem IE:∀{l:List Int},nO l=W8->l.Nodup:=by
 intro l;induction l with
 | nil=>
  intro _;exact List.nodup_nil
 | cons x r ih=>
  intro h;refine aI (bE.mp h) λ h1 h2=> ?_;refine ku.mpr ⟨λ hm=> ?_,ih h2⟩;have:(r.any λ y=>decide (x=y))=W8:=m8.mpr ⟨x,hm,decide_eq_true rfl⟩;rw[this]at h1;contradiction
theorem IF:∀{ks:List (Option Expr)} {is:List Int},bZ kW ks=W6 is->ks.all (·.isSome)=W8/\ks.length=is.length:=by
 intro ks;induction ks with
 | nil=>
  intro _ h
  (injection h with zq;subst zq);exact⟨rfl,rfl⟩
 | cons k r ih=>
  intro is h;refine aj (bO.mp h) λ i h3 h4=> ?_;refine aj (ez.mp h4) λ is h5 zq2=> ?_;subst zq2;refine aI (ih h5) λ h6 h7=> ?_;refine⟨?_,by simp[h7]⟩
  rw[jI,h6];induction k with
  | none=>contradiction
  | some _=>rfl
theorem IG(ok:bc w mg mb bud C)(fc:FC w F C):∀{es:List Expr} {vs:List AV} {QQ:List az->aw->Prop} {s:aw} {os:Lo} {fr:Tf} {m:Tm},
  bZ (gC F σ) es=W6 vs->aE C ads σ s os fr m->(∀us tk,bk ads vs us->QQ us { s with toks:=tk })->aC (ag pw w) A (spliced (backTo pos (fO es C.env))) QQ E s:=by
 intro es;induction es with
 | nil=>
  intro vs QQ s os fr m h X q;injection h with zq;subst zq
  exact spliced_nil (q [] s.toks .nil)
 | cons e es ih=>
  intro vs QQ s os fr m h X q;refine aj (bO.mp h) λ v h6 h7=> ?_;refine aj (ez.mp h7) λ vs h8 zq2=> ?_;subst zq2;have hs:noStar e=W8:=by
   cases e <;> first | rfl | contradiction
  rw[kY hs];refine spliced_cons (sS ok fc X h6 λ u tk hu=> ?_);have X2:=X.off (h':=s.heap) (tk:=tk) λ b o hb _=>hb;exact ih h8 X2 λ us tk' hus=>q _ tk' (.cons hu hus)
theorem IH{ks:List (Option Expr)}{vs args:List Expr}{is:List Int}(ok:bc w mg mb bud C)(fc:FC w F C)(UE:(apos.endLine==pos.line)=W8)(UH:dT args.length 29=W8)(Ug:args.all noStar=W8)
  (hk:bZ kW ks=W6 is) (hlen:dT ks.length 10=W8) (TT:(!ks.isEmpty)=W8) (Vu:nO is=W8) (hl:aO is.length vs.length=W8) (hv:bZ (gC F σ) vs=W6 us) (hp:us.all jt=W8) (ha:bZ (gC F σ) args=W6 [.num i,d]) (hd:jt d=W8)
  (q:mh i is us d σ Q):WA w C ads σ (aZ (.Call (.Attribute (.Dict ks vs dp) "get" apos) args [] pos) C.env) RV Q R:=by
 rintro s ⟨os,fr,m,X⟩
 refine aI (IF hk) λ Uk hkl=> ?_;have hl:=dc hl;have hne':ks≠ []:=by intro e;subst e;contradiction
 have hlt:ks.length<10:=by simpa[gh] using hlen
 refine Ip (by rfl) UE UH Ug (kdn_int (pos:=dp) (news:=ads.zip os++fr) ?_ X.F X.N ok.top.nolimit Uk (by lia) hne' (by lia) λ dx h' o F' N' hlt' lo hdict=> ?_)
 ·have:∀{ks:List (Option Expr)} {is:List Int},bZ kW ks=W6 is->intLits ks=W8:=by
   intro ks;induction ks with
   | nil=>intro is _;rfl
   | cons k r ih=>
    intro is h;refine aj (bO.mp h) λ i h3 h4=> ?_;refine aj (ez.mp h4) λ is h5 zq2=> ?_;subst zq2;refine lP (yG h3) λ kc kp zq2=> ?_;subst zq2;exact ih h5
  exact this hk
 have X1:aE C ads σ { s with heap:=h' } os fr m:=⟨X.hgens,X.hdrawn,X.hos,F',X.loc,λ p hp=>N' p (.tail _ hp),X.len,X.objs,X.nd,X.frs,X.ini⟩
 refine IA ok fc hk hv hl X1 λ ps tk V5=> ?_;refine aI (IB V5) λ k1 k2=> ?_;have N2:News C.g C.L ({ s with heap:=h',toks:=tk }:aw).heap ((dx,o)::(ads.zip os++fr)):=N'
 have F2:Fr C.g C.L ({ s with heap:=h',toks:=tk }:aw).heap m:=F'
 refine kdn_made_int F2 N2 (.head λ p hp e=> ?_) hdict k1 (by rw[k2];exact IE Vu) λ h₂ o' F3 N3 hd3=> ?_
 ·exact absurd (hlt' p hp) (by rw[e];exact gR _)
 intro pl;have T:IntTab pw w h₂ dx (intData ps):=TabAt.ofObj lo (N3 _ (.head _)).1 hd3 (flatPairs_int ps k1 (IC V5 hp));have X3:aE C ads σ { s with heap:=h₂,toks:=tk+ps.length } os fr m:=⟨X.hgens,X.hdrawn,X.hos,F3,X.loc,λ p hp=>N3 p (.tail _ hp),X.len,X.objs,X.nd,X.frs,X.ini⟩
 refine getMethod_intTab_get T ?_;have hK:(K0 w.params).In h₂:=ok.K.keeps F3.keep;induction args with
 | nil=>(injection ha with zq;injection zq)
 | cons a0 ar=>
  obtain⟨V4,hs2⟩:=bE.mp (by rw[jI]at Ug;exact Ug)
  refine callWith_of (P:= (K0 w.params).In) (by rw[yB Ug];rfl) qj ?_
  rw[kY V4];refine evalArgs_plain ?_;rw[←kY V4];refine IG ok fc ha X3 λ us' tk2 hus=>⟨hK, ?_⟩;cases hus with
  | cons x y=>cases y with
   | cons y z=>
    cases z;revert x;refine dw λ t SY=> ?_;subst SY;refine aj (sU hd y) λ dd WY hddf=> ?_;have hfl:PyProof.V.Flat _ dd:=PyProof.Rows.flat_datumOf WY;refine call_get2_intTab (s:={ s with heap:=h₂,toks:=tk2 }) T hfl λ v VM=> ?_
    refine aj (ID V5 hp hddf q VM) λ v' hc hq=> ?_;exact⟨ads,σ,v',cN _,⟨os,fr,m,X3.off (tk:=tk2+1) λ b o hb _=>hb⟩,hc,hq⟩
end
end
section
open PySem.Calls
section
variable{w:aQ}{mg mb:Tm}{C:Cx}{ads:Ld}{σ:AS}{bud:Nat}{F:Cf}{Q:Ta}{R:Tn}
structure aX (w:aQ) (mg mb:Tm) (bud:Nat) (Γ:ak->Option aH):Prop where
 sound:∀f c,f<100000->Γ f=W6 c->bx w mg mb f c
 bud:∀f c,Γ f=W6 c->c.bud<=bud
 keep:∀f c,f<100000->Γ f=W6 c->keepIn (K0 w.params) (.ref f)=W8
 lam:∀i c,Γ (100000+i)=W6 c->jX w mg mb i c
variable{Γ:ak->Option aH}
theorem yH{P:bS->Prop}{first:Lv}{args:List Expr}{QL:List AV->AS->Prop}(hs:args.all noStar=W8)
  (hk:∀h:bS,P h->∃k,(k=Keeper.frame∨k=Keeper.machine∨k=Keeper.boundFrame)/\Looks (ag pw w) h (keeperOf f) k)
  (TZ:∀{s},bK C ads σ s->ai (ag pw w) C.A (spliced (backTo pos (fO args C.env))) (ee C ads RL QL) (dD C R) s)
  (h:∀ads' σ' vs us,ads <+:ads'->bk ads' vs us->QL vs σ'->(∀s',bK C ads' σ' s'->P s'.heap)/\W w C ads' σ' (call f (first++us) []) RV Q R):
  W w C ads σ (callWith pos f first (backTo pos (fO args C.env)) []) RV Q R:=by
 intro s r;refine El (P:=P) (by rw[yB hs];rfl) hk ?_
 have fin:ai (ag pw w) C.A (spliced (backTo pos (fO args C.env))) (λ us s₁=>P s₁.heap/\ai (ag pw w) C.A (call f (first++us) []) (ee C ads RV Q) (dD C R) s₁) (dD C R) s:=by
  refine aK (TZ r) (λ us s₁ hp=> ?_) λ _ _ x=>x;revert hp;refine gU λ ads' σ' vs p r' hc q=> ?_;refine aI (h ads' σ' vs us p hc q) λ h1 h2=> ?_;exact⟨h1 _ r',h2.on p r'⟩
 induction args with
 | nil=>
  have fin:ai (ag pw w) C.A (spliced []) (λ us s₁=>P s₁.heap/\ai (ag pw w) C.A (call f (first++us) []) (ee C ads RV Q) (dD C R) s₁) (dD C R) s:=fin
  show ai _ _ (evalArgs f W8 [] []) _ _ _;unfold evalArgs;show ai _ _ (spliced [] >>=_) _ _ _;refine aA (aK fin (λ us s₁ h₁=> ?_) λ _ _ x=>x);refine aA (aT ?_);refine cV ?_;exact aA (aT (aA (aT (aT h₁))))
 | cons e es=>
  obtain⟨h1,h2⟩:=bE.mp (by rw[jI]at hs;exact hs)
  rw[kY h1]at fin ⊢
  exact Ek fin
def qk(c:iT)(f:az):Prop:=match c with
 | .fn g=>f= .ref g
 | .bi id=>f= .builtin id
 | .un id=>f= .builtin id
noncomputable def yI(c:iT)(u:az):List az:=match c with
 | .fn _=> [u]
 | .bi _=> [u]
 | .un _=> []
section
variable{A:dj}{E:Tv}{s:aw}{QQ:az×List az->aw->Prop}{pl:Sem Bool}{x:ab}{t:Tok}
theorem II(q:QQ (.builtin "str.join", [.str x t]) s):aC (ag pw w) A (getMethod (.str x t) "join" pl) QQ E s:=getMethod_builtin (typeIs_str _ _ _) F.plainAttrs_str F.slot_str_join F.type_str_join (λ _ e=>nomatch e) q
theorem IJ(q:QQ (.builtin "str.split", [.str x t]) s):aC (ag pw w) A (getMethod (.str x t) "split" pl) QQ E s:=getMethod_builtin (typeIs_str _ _ _) F.plainAttrs_str F.slot_str_split F.type_str_split (λ _ e=>nomatch e) q
theorem IK(q:QQ (.builtin "str.lower", [.str x t]) s):aC (ag pw w) A (getMethod (.str x t) "lower" pl) QQ E s:=getMethod_builtin (typeIs_str _ _ _) F.plainAttrs_str F.slot_str_lower F.type_str_lower (λ _ e=>nomatch e) q
theorem sV(e4:s.heap.get? ax=W6 (listOf vs n))(q:QQ (.builtin "list.append", [.ref ax]) s):aC (ag pw w) A (getMethod (.ref ax) "append" pl) QQ E s:=
 getMethod_builtin ⟨_,e4,rfl⟩ F.plainAttrs_list F.slot_list_append F.type_list_append (λ a e=>by(injection e with zq;subst zq);exact⟨_,e4,rfl⟩) q
end
theorem k7(id:String):qk (.bi id) (.builtin id):=rfl
theorem IL(ok:bc w mg mb bud C)(h:si a name σ=W6 c)(ha:aU ads a u)(r:bK C ads σ s)
  (q:∀f s',bK C ads σ s'->qk c f->QQ (f,yI c u) s'):aC (ag pw w) C.A (getMethod u name pl) QQ E s:=by
 have r0:=r;revert r;refine dk λ os fr m X=> ?_;have nm:∀{x:ab} {d:iT},jT name x d=W6 c->name=x/\d=c:=λ {x d} h=>by
  unfold jT at h;refine cF (b:=name==x) (λ hn=> ?bt) λ hn=> ?bf
  case bt=>rw[hn]at h;exact⟨iw hn,bQ h⟩
  case bf=>rw[hn]at h;contradiction
 induction a with
 | st x=>
  revert ha;refine dw λ t SY=> ?_;subst SY;have h:(match name== ("join" :ab) with
   | true=>W6 (iT.bi "str.join")
   | false=>match name== ("split" :ab) with
    | true=>W6 (.bi "str.split")
    | false=>jT name "lower" (.bi "str.lower"))=W6 c:=h
  cases hn:name== ("join" :ab) with
  | true=>
   rw[hn]at h;obtain rfl:=bQ h;rw[iw hn];exact II (q _ _ r0 (k7 _))
  | false=>
   rw[hn]at h;simp only at h;cases hn:name== ("split" :ab) with
   | true=>
    rw[hn]at h;obtain rfl:=bQ h;rw[iw hn];exact IJ (q _ _ r0 (k7 _))
   | false=>
    rw[hn]at h;simp only at h;refine aI (nm h) λ Tj SY=> ?_;subst Tj;subst SY;exact IK (q _ _ r0 (k7 _))
 | ob k=>
  revert ha;refine b7 λ ax hax zq2=> ?_;subst zq2;revert h;refine cj bO.mp λ ao hk h=> ?_;refine cO (dZ X hax hk) λ o _ r1 g1=> ?_;induction ao with
  | inst K d=>
   revert h;refine cj bO.mp λ l h2 h=> ?_;refine aj (bO.mp h2) λ Vx h3 h4=> ?_;have h2:σ.objs[d]? =W6 (.dic l):=by
    induction Vx with
    | dic l'=>(injection h4 with zq;subst zq);exact h3
    | _=>contradiction
   cases h5:l.lookup name with
   | some v=>rw[h5]at h;contradiction
   | none=>
    rw[h5]at h;refine aj (ez.mp h) λ f hf zq2=> ?_;subst zq2;refine va (X.inst hk h2) λ a dx es n e1 e2 e3 e4 I=> ?_;rw[e1]at hax;obtain rfl:=bQ hax;have M:=G9 (P:=w.params) hf;have hd:=qf (name:=name) e4;rw[h5]at hd;exact method_fn (ok.K.keeps X.F.keep) I M.ga M.gt M.fi M.ty (by show (lookIn name (dictOf es n)).map _=_;rw[lookIn_dict,hd];rfl) (q _ _ r0 rfl)
  | lst xs=>obtain⟨rfl,rfl⟩:=nm h;obtain⟨ws,n,rfl,hc⟩:=r1;exact sV g1 (q _ _ r0 (k7 _))
  | lstS xs=>obtain⟨rfl,rfl⟩:=nm h;obtain⟨ws,n,rfl,hc⟩:=r1;exact sV g1 (q _ _ r0 (k7 _))
  | lstI xs=>obtain⟨rfl,rfl⟩:=nm h;obtain⟨ws,n,rfl,hc⟩:=r1;exact sV g1 (q _ _ r0 (k7 _))
  | bar b=>
   refine aI (nm h) λ Tj SY=> ?_;subst Tj;subst SY;revert r1;refine bF λ _ SY=> ?_;subst SY;exact Hr g1 (q _ _ r0 (k7 _))
  | _=>injection h
 | gl g=>
  obtain rfl:=ha;induction u with
  | type T=>
   have h:(match T== "Exception" && name== ("__init__" :ab) with
    | true=>W6 (iT.un "Exception.__init__")
    | false=>W7)=W6 c:=h
   cases hn:T== "Exception" && name== ("__init__" :ab) with
   | true=>
    rw[hn]at h;obtain rfl:=bQ h;refine aI (bE.mp hn) λ h1 h2=> ?_;rw[iw h2,beq_iff_eq.mp h1];exact Ff (P:=w.params) X.F ok.K (q _ _ (r0.toks _) rfl)
   | false=>rw[hn]at h;contradiction
  | _=>injection h
 | _=>injection h
structure jY (w:aQ) (mg mb:Tm) (bud:Nat) (Γ:ak->Option aH) (n:Nat):Prop where
 E:∀{C F ads σ e Q R},bc w mg mb bud C->FC w F C->bh Γ F n e σ Q R->W w C ads σ (aZ e C.env) RV Q R
 O:∀{C F ads σ e Q R},bc w mg mb bud C->FC w F C->nP Γ F n e σ Q R->W w C ads σ (evalPart e C.env) RO Q R
 L:∀{C F ads σ es Q R pos},bc w mg mb bud C->FC w F C->es.all noStar=W8->iU Γ F n es σ Q R->W w C ads σ (spliced (backTo pos (fO es C.env))) RL Q R
 B:∀{C F ads σ op es Q R pos},bc w mg mb bud C->FC w F C->mj Γ F n op es σ Q R->W w C ads σ (aZ (.BoolOp op es pos) C.env) RV Q R
 T:∀{C F ads σ e Q R},bc w mg mb bud C->FC w F C->gG Γ F n e σ Q R->W w C ads σ (fh e C.env (aZ e C.env)) RE Q R
 A:∀{C F ads σ op es Q R pos t},bc w mg mb bud C->FC w F C->ml Γ F n op es σ Q R->W w C ads σ (fh (.BoolOp op es pos) C.env t) RE Q R
 Cv:∀{C F ads σ a u ops es Q R pos},bc w mg mb bud C->FC w F C->aU ads a u->hO Γ F n a ops es σ Q R->W w C ads σ (compareChain pos u ops (evalEach es C.env)) RB Q R
 Ct:∀{C F ads σ a u ops es Q R pos},bc w mg mb bud C->FC w F C->aU ads a u->hO Γ F n a ops es σ Q R->W w C ads σ (testChain pos u ops (evalEach es C.env)) RE Q R
theorem IM{k i:Nat}{ao:AO}{ax:ak}{s:aw}{os:Lo}{fr:Tf}{m:Tm}(X:aE C ads σ s os fr m)(hax:ads[k]? =W6 ax)(hk:σ.objs[k]? =W6 ao)(hl:kT ao=W6 i):FnAt ax s.heap:=by
 refine cO (dZ X hax hk) λ o _ r1 g1=> ?_;cases ao <;> first | cases hl | skip
 revert r1;refine u_ λ clos pm ca ctv _ _ zq6=> ?_;subst zq6;exact⟨_,_,_,_,g1⟩
theorem IP(ok:bc w mg mb bud C)(fc:FC w F C)(G:aX w mg mb bud Γ)(h:sm Γ F a vs σ Q R)(ha:aU ads a u)(hv:bk ads vs us):W w C ads σ (call u us []) RV Q R:=by
 induction a with
 | gl g=>
  obtain rfl:=ha;induction u with
  | ref f=>
   revert h;refine cK (bA (b:=dT f 100000)) λ h1 h=> ?_;revert h;refine cj bw λ c hc h=> ?_;exact ym ok fc (G.sound _ _ (by simpa[gh] using h1) hc) (G.bud _ _ hc) h hv
  | builtin id=>exact(HV (λ q X=>HU fc q X) h hv).toG
  | type id=>exact HX fc.calm h hv
  | _=>exact aF h
 | ob k=>
  induction hv with
  | nil=>
   refine aj (bw (o:= (σ.objs[k]?).bind kT) h) λ i hi h=> ?_;revert h;refine cj bw λ c hc h=> ?_;revert hi;refine cj bO.mp λ ao hk hi=> ?_;revert ha;refine b7 λ f hf zq2=> ?_;subst zq2;exact H9 ok fc (G.lam _ _ hc) (G.bud _ _ hc) h hk hi ⟨f,hf,rfl⟩
  | cons _ _=>exact aF h
 | _=>exact aF h
def yJ(w:aQ)(C:Cx)(Γ:ak->Option aH)(a:AV)(u:az)(h:bS):Prop:=∃ads σ s,s.heap=h/\bK C ads σ s/\aU ads a u/\sq Γ a σ=W8
theorem IQ{a:AV}{u:az}(ok:bc w mg mb bud C)(G:aX w mg mb bud Γ)(h:bS)(m:yJ w C Γ a u h):∃k,(k=Keeper.frame∨k=Keeper.machine∨k=Keeper.boundFrame)/\Looks (ag pw w) h (keeperOf u) k:=by
 revert m;refine gU λ ads σ s Tp zq4 ha hc=> ?_;subst Tp;obtain⟨os,fr,m,X⟩:=zq4;induction a with
 | gl g=>
  obtain rfl:=ha;induction u with
  | ref f=>
   refine aI (bE.mp (show (dT f 100000 && (Γ f).isSome)=W8 from hc)) λ h1 h2=> ?_
   refine cv (uP.mp h2) λ c hc=> ?_;exact keeps_K (G.keep _ _ (by simpa[gh] using h1) hc) _ (ok.K.keeps X.F.keep)
  | builtin id=>exact qj (w:=w) _ (ok.K.keeps X.F.keep)
  | type id=>exact Ir (w:=w) _ (ok.K.keeps X.F.keep)
  | _=>contradiction
 | ob k=>
  refine cv (uP.mp (show ((σ.objs[k]?).bind kT).isSome=W8 from hc)) λ i hi=> ?_
  revert hi;refine cj bO.mp λ ao hk hi=> ?_;revert ha;refine b7 λ f hf zq2=> ?_;subst zq2;exact keeps_F _ (IM X hf hk hi)
 | _=>contradiction
theorem IR{id:String}{us:Lv}(ok:bc w mg mb bud C)(h:xr id vs σ Q)(hv:bk ads vs us):WA w C ads σ (call (.builtin id) us []) RV Q R:=by
 rintro s ⟨os,fr,m,X⟩
 cases vs with
 | nil=>exact aF h
 | cons v0 r=>cases r with
  | nil=>cases v0 <;> exact aF h
  | cons v r=>
 cases r with
 | cons _ _=>cases v0 <;> exact aF h
 | nil=>
 cases v0 <;> first | exact aF h | skip
 rename_i k;revert h;refine cK bA λ hi h=> ?_;rw[beq_iff_eq.mp hi];revert h;refine cj bw λ o hk h=> ?_;revert h;refine cK bA λ h0 h=> ?_;cases o <;> first | cases h0 | skip
 cases hv with
 | cons x y=>cases y with
  | cons y z=>
  cases z;revert x;refine b7 λ ax hax zq2=> ?_;subst zq2;refine il (X.obj hk) λ ax' o e1 e2 zq4 hx _=> ?_;obtain⟨vs,rfl,hsz,hn,hn2⟩:=zq4;rw[hax]at e1;obtain rfl:=bQ e1;have hK:=ok.K.keeps X.F.keep;refine Fe (hK _ _ (lU w.params)) hx hsz (by rw[gT];simp) ?_
  have lk:k<ads.length:= (dP.mp hax).1;have lko:k<os.length:=by rw[X.len];exact lk
  have X1:=X.push (tk:=s.toks) (o:=fU [_]) (ao:= .tup [v]) rfl ⟨_,_,rfl, .cons (y.mono (c9 _ _)) .nil⟩;have X2:=X1.upd (tk:=s.toks) (k:=k) (f:=i9 (·.setIfInBounds 0 (.ref s.heap.objs.size))) (o':=⟨.ref 71,W7, .fields (vs.setIfInBounds 0 (.ref s.heap.objs.size)), #[]⟩) (ao:= .ex0) (by rw[ib lk];exact hax) (by rw[ib lko];exact e2) rfl rfl
   ⟨_,rfl,by simpa using hsz,by simpa using hn,by simpa using hn2⟩
  exact⟨ads++ [s.heap.objs.size],_, .non,c9 _ _,⟨_,fr,m,X2⟩,rfl,h⟩
theorem IS(ok:bc w mg mb bud C)(fc:FC w F C)(G:aX w mg mb bud Γ)(h:so Γ F c a vs σ Q R)(hf:qk c f)(ha:aU ads a u)(hv:bk ads vs us):
  W w C ads σ (call f (yI c u++us) []) RV Q R:=by
 induction c with
 | fn g=>
  cases hf;revert h;refine cK (bA (b:=dT g 100000)) λ h1 h=> ?_;revert h;refine cj bw λ c hc h=> ?_;exact ym ok fc (G.sound _ _ (by simpa[gh] using h1) hc) (G.bud _ _ hc) h (.cons ha hv)
 | bi id=>cases hf;exact H5 ok h ha hv
 | un id=>cases hf;exact(IR ok h hv).toG
theorem IU(G:aX w mg mb bud Γ)(h:sr Γ c=W8)(hf:qk c f):sR w f:=by
 induction c with
 | fn g=>
  cases hf;refine aI (bE.mp (show (dT g 100000 && (Γ g).isSome)=W8 from h)) λ h1 h2=> ?_
  refine cv (uP.mp h2) λ c hc=> ?_;exact keeps_K (G.keep _ _ (by simpa[gh] using h1) hc)
 | bi id=>cases hf;exact qj
 | un id=>cases hf;exact qj
theorem IV{A:dj}{E:Tv}{ops:List CmpOp}{rs:List Expr}{t:Sem az}{Q:Bool->aw->Prop}(hm:lastMarks ops rs=W9)
  (h:ai (ag pw w) A (aZ l env) (λ a s₁=>ai (ag pw w) A (testChain pos a ops (evalEach rs env)) Q E s₁) E s):ai (ag pw w) A (fh (.Compare l ops rs pos) env t) Q E s:=by
 show ai _ A (do testChain pos (←aZ l env) ops (markedEach ops rs (evalEach rs env))) Q E s
 rw[markedEach_of_false _ _ _ hm];exact aA h
theorem IW{A:dj}{E:Tv}{ops:List CmpOp}{rs:List Expr}{Q:Tv}(hm:lastMarks ops rs=W9)
  (h:ai (ag pw w) A (aZ l env) (λ a s₁=>ai (ag pw w) A (compareChain pos a ops (evalEach rs env)) Q E s₁) E s):ai (ag pw w) A (aZ (.Compare l ops rs pos) env) Q E s:=by
 show ai _ A (do compareChain pos (←aZ l env) ops (markedEach ops rs (evalEach rs env))) Q E s
 rw[markedEach_of_false _ _ _ hm];exact aA h
theorem yK(h:kU F σ op b e=W6 c):∃i j,b= .num i/\gC F σ e=W6 (.num j)/\∀{QQ:Bool->Prop},QQ c->fs op (.num i) (.num j) σ QQ:=by
 induction b <;> first | contradiction | skip
 rename_i i;have h:(match gC F σ e with
  | some (.num j)=>rT op i j
  | _=>W7)=W6 c:=h
 cases hv:gC F σ e with
 | none=>rw[hv]at h;contradiction
 | some a=>
  rw[hv]at h;induction a <;> first | contradiction | skip
  rename_i j;refine⟨i,j,rfl,rfl,λ {QQ} q=> ?_⟩;induction op <;> first | contradiction | exact cb (congrArg QQ (bQ h).symm) q
end
end
section
open PySem.Calls
section
variable{w:aQ}{mg mb:Tm}{C:Cx}{ads:Ld}{σ:AS}{bud:Nat}{F:Cf}{Q:Ta}{R:Tn}{Γ:ak->Option aH}
theorem k8(h:l_ a σ σ' P):yz a σ σ'.objs/\P:=by
 induction a with
 | ob k=>
  refine aj (bw (o:=σ.objs[k]?) h) λ o hk h=> ?_;have h:(match nK o with
   | true=>P
   | false=>aJ (σ'.objs[k]?) λ o'=>AO.sim o' o P):=h
  refine cF (b:=nK o) (λ hr=> ?bt) λ hr=> ?bf
  case bt=>
   rw[hr]at h;exact⟨λ k' ao e UR hn=>(by(injection e with zq;subst zq);rw[hk]at UR;(injection UR with zq;subst zq);rw[hr]at hn;contradiction),h⟩
  case bf=>
   rw[hr]at h;refine aj (bw h) λ o' UR h=> ?_;refine⟨λ k' ao e hk2 _=> ?_,(AO.sim_ok (ads:= []) h).2⟩;injection e with zq;subst zq
   rw[hk]at hk2;injection hk2 with zq;subst zq
   exact⟨o',UR,λ ads o r=>(AO.sim_ok (ads:=ads) h).1 o r⟩
 | _=>exact⟨λ k ao e=>(by contradiction),h⟩
theorem kX.rep_at(e:kX C σ m ads' objs vs D L s)(hr:∀n,cy (ads'++ [D]) ao (W.listOf vs.toArray n)):∃os fr,aE C (ads'++ [D]) ⟨σ.loc,objs++ [ao]⟩ s os fr m/\L ∉ (ads'++ [D])++fr.map (·.1)/\(ads'++ [D])[objs.length]? =W6 D:=by
 refine dY e.rep λ os fr X h1 h2=> ?_;refine cv e.list λ nn hg=> ?_;refine⟨_,fr,X.add (tk:=s.toks) (a:=D) (o:=W.listOf vs.toArray nn) X.F (λ q hq=> ?_) h1 (hr nn),λ hm=> ?_, ?_⟩
 ·refine c_ (bR.mp hq) (λ zr=> ?_) (λ hq=> ?_)
  ·subst zr
   exact⟨hg,e.dL,e.dg⟩
  ·exact X.N q hq
 ·rw[cS]at hm
  refine c_ (bV.mp hm) (λ q=> ?_) (λ q=> ?_)
  ·exact h2 (bU _ q)
  ·refine c_ (bV.mp q) (λ q=> ?_) (λ q=> ?_)
   ·exact e.lD (dI.mp q)
   ·exact h2 (cu _ q)
 ·have:objs.length=ads'.length:=X.objs.len.trans X.len
  rw[this];simp
theorem IX(hp:ads <+:ads')(e:kX C σ m ads' objs vs D L s)(hr:∀n,cy (ads'++ [D]) ao (W.listOf vs.toArray n))
  (q:Q (.ob objs.length) ⟨σ.loc,objs++ [ao]⟩):compPost (ag pw w) C.A E W7 (ee C ads RV Q) (.ref D) L (.ok .next) s:=by
 refine dY (e.rep_at hr) λ os fr X hL hD=> ?_;refine cv e.ns λ m' TY=> ?_;refine⟨m',TY,λ h' hs=>⟨ads'++ [D],_, .ob objs.length,hp.trans (c9 _ _),⟨os,fr,m,X.off (tk:=s.toks) λ b o hb hc=>hs.extBut b o (λ q=> ?_) hb⟩,⟨D,hD,rfl⟩,q⟩⟩;subst q;revert hc;refine gj (λ q=> ?_) (λ q=> ?_) (λ q=> ?_) (λ q=> ?_)
 ·exact e.lL q
 ·exact hL (bU _ q)
 ·exact hL (cu _ q)
 ·rw[e.lg]at q;contradiction
theorem IY(ok:bc w mg mb bud C)(hy:C.scope.names.lookup y=W6 .local)(e:kX C σ m ads' objs vs D L s)
  (hr:∀n,cy (ads'++ [D]) ao (W.listOf vs.toArray n)) (q:Qf .next ⟨dU y (.ob objs.length) σ.loc,objs++ [ao]⟩):compPost (ag pw w) C.A E (W6 (assign (.Name y py) C.env)) (λ _ s'=>iV C Qf .next s') (.ref D) L (.ok .next) s:=by
 refine dY (e.rep_at hr) λ os fr X hL hD=> ?_;refine cv e.ns λ m' TY=> ?_;show aC _ _ (assign (.Name y py) C.env (.ref D)) _ _ _;refine wpAny_assign_Name (rh hy X.F.ns (λ h' hn hs=>⟨m',TY.sameBut hs e.lL,λ VT T_=> ?_⟩) (nX ok.kind));have X2:=X.store (tk:=s.toks+1) (y:=y) (av:= .ob objs.length) hn hs ⟨D,hD,rfl⟩;refine⟨ads'++ [D],_, .next,⟨os,fr,_,X2.off (h':=VT) (tk:=s.toks+1) λ b o hb hc=>T_.extBut b o (λ q=> ?_) hb⟩,rfl,q⟩;subst q;revert hc;refine gj (λ q=> ?_) (λ q=> ?_) (λ q=> ?_) (λ q=> ?_)
 ·exact e.lL q
 ·exact hL (bU _ q)
 ·exact hL (cu _ q)
 ·rw[e.lg]at q;contradiction
theorem bK.noLoc(r:bK C ads σ s):bK C ads ⟨[],σ.objs⟩ s:=
 let ⟨os,fr,m,X⟩:=r
 ⟨os,fr,m,X.hgens,X.hdrawn,X.hos,X.F,(λ _ _ h=>nomatch h),X.N,X.len,X.objs,X.nd,X.frs,X.ini⟩
theorem aE.conv{s:aw}{os:Lo}{fr:Tf}{m:Tm}(X:aE C ads σ s os fr m){objs:La}(h:∀v,aW (cy ads) σ.objs v->aW (cy ads) objs v):aE C ads ⟨σ.loc,objs⟩ s os fr m:=
 ⟨X.hgens,X.hdrawn,X.hos,X.F,X.loc,X.N,X.len,h _ X.objs,X.nd,X.frs,X.ini⟩
def sW(Γ:ak->Option aH)(F:Cf)(n:Nat)(elt:Expr)(x:ab)(sc:et)(cl:List (ab×Nat))(k:Nat)(a:AV)(SN:AS)(Q:Ta):Prop:=aJ (su a SN) λ I=>I.n<=1048576/\match F.an.comp k SN with
 | none=>pZ Γ (ju F sc cl SN.objs.length) n elt x a I 0 [] SN ⟨[],SN.objs⟩ (λ vs SZ=>aJ (l9 (F.an.kind k) vs) λ o=>Q (.ob SZ.objs.length) ⟨SN.loc,SZ.objs++ [o]⟩)
 | some A=>(∃y,nx SN.objs (A.objs y) (AO.sim (.lst []) (A.acc y) (A.ok 0 y)))/\
   (∀i y,i<I.n->A.ok i y->aG (nI (A.acc y)) (l_ a SN ⟨[],A.objs y⟩ (bh Γ (ju F sc cl SN.objs.length) n elt ⟨[(x,I.item i)],A.objs y⟩ (λ v SZ=>
    ∃z,fgt SN.objs.length ⟨[],SZ.objs⟩ ⟨[],A.objs z⟩ (aJ (kS (A.acc y) v) λ o=>AO.sim o (A.acc z) (A.ok (i+1) z))) (λ _ _=>False))))/\
   ∀y,A.ok I.n y->l_ a SN ⟨[],A.objs y⟩ (Q (.ob (A.objs y).length) ⟨SN.loc,A.objs y++ [A.acc y]⟩)
theorem IZ(h:AO.sim (.lst []) b P):fF b=W6 []/\P:=by
 induction b with
 | lst xs=>induction xs with
  | nil=>exact⟨rfl,h⟩
  | cons _ _=>exact h.elim
 | lstS xs=>obtain⟨e,h2⟩:=nE (o:=bZ iL []) h;(injection e with zq;subst zq);exact⟨rfl,h2⟩
 | lstI xs=>obtain⟨e,h2⟩:=nE (o:=bZ ir []) h;(injection e with zq;subst zq);exact⟨rfl,h2⟩
 | _=>exact aF h
theorem I0(hf:nI o=W8)(hl:fF o=W6 acc)(ha:kS o v=W6 o')(h:AO.sim o' b P):fF b=W6 (acc++ [v])/\(∀ads ads' vs,bk ads (acc++ [v]) vs->bk ads' (acc++ [v]) vs)/\P:=by
 induction o with
 | lstS xs=>
  induction v with
  | st x=>
   (injection ha with zq;subst zq);(injection hl with zq;subst zq)
   have e1:dK Xd xs++ [Xd x]= (xs++ [x]).map Xd:=by simp
   induction b with
   | lstS ys=>
    obtain⟨rfl,h⟩:xs++ [x]=ys/\P:=h;rw[e1];exact⟨rfl,λ _ _ _ c=>lY c,h⟩
   | _=>exact aF h
  | _=>contradiction
 | lstI xs=>
  induction v with
  | num x=>
   (injection ha with zq;subst zq);(injection hl with zq;subst zq)
   have e1:dK Xc xs++ [Xc x]= (xs++ [x]).map Xc:=by simp
   induction b with
   | lstI ys=>
    obtain⟨rfl,h⟩:xs++ [x]=ys/\P:=h;rw[e1];exact⟨rfl,λ _ _ _ c=>pD c,h⟩
   | _=>exact aF h
  | _=>contradiction
 | rng n=>contradiction
 | _=>contradiction
theorem sX(h:fF ao=W6 acc)(c:bk ads acc vs):cy ads ao (W.listOf vs.toArray n):=by
 induction ao with
 | lst xs=>(injection h with zq;subst zq);exact⟨_,_,rfl,c⟩
 | lstS xs=>(injection h with zq;subst zq);exact⟨_,_,rfl,c⟩
 | lstI xs=>(injection h with zq;subst zq);exact⟨_,_,rfl,c⟩
 | _=>injection h
theorem yL(h:l9 k vs=W6 o):fF o=W6 vs:=by
 induction k with
 | vs=>(injection h with zq;subst zq);rfl
 | ss=>obtain⟨l,hl,rfl⟩:=ez.mp h;rw[l0 hl];rfl
 | is=>obtain⟨l,hl,rfl⟩:=ez.mp h;rw[rW hl];rfl
theorem yM{elt itE:Expr}{x:ab}{px pos:Pos}{sc:et}{clF:List (ab×Nat)}{a:AV}{u:az}{k n:Nat}{use:Option (az->Sem Unit)}{E:Tv}{Qv:Tv}
  {s:aw} {os:Lo} {fr:Tf} {m:Tm} (ok:bc w mg mb bud C) (fc:FC w F C) (ih:∀j,j<=n->jY w mg mb bud Γ j) (S8:F.calm=W8) (WE:nM sc=W8) (hx:gF sc x=W8) {cl:List (ab×ak)} (UP:aW (λ(p:ab×Nat) (q:ab×ak)=>p.1=q.1/\C.ini[p.2]? =W6 q.2) clF cl)
  (X:aE C ads σ s os fr m) (ha:aU ads a u) (h:sW Γ F n elt x sc clF k a σ Q)
  (fin:∀ads' objs vs D L s' ao,ads <+:ads'->kX C σ m ads' objs vs D L s'->(∀n,cy (ads'++ [D]) ao (W.listOf vs.toArray n))->Q (.ob objs.length) ⟨σ.loc,objs++ [ao]⟩->compPost (ag pw w) C.A E use Qv (.ref D) L (.ok .next) s'):
  aC (ag pw w) C.A (pyIter u) (λ it SP=>aC (ag pw w) C.A (newList []) (λ acc s₃=>aC (ag pw w) C.A (newFunctionEnv sc C.env.globals cl [] C.env.qual W7 .none (W6 C.env)) (λ cenv TB=>
   cf (ag pw w) C.A (.compStart (.ListComp elt [⟨.Name x px,itE, [],0⟩] sc pos) 0 it acc { cenv with scope:=relabel sc C.env }) (compPost (ag pw w) C.A E use Qv acc cenv.locals) TB) E s₃) E SP) E s:=by
 have hlen:σ.objs.length=ads.length:=by rw[X.objs.len,X.len]
 refine cO (bw h) λ I hI hsz h=> ?_;have hh:=fc.calm S8;have hF:∀C',C'.ini=ads->C'.scope=relabel sc C.env->C'.hdl=C.hdl->C'.qual=C.qual->C'.cells=cl->FC w (ju F sc clF ads.length) C':=λ C' e1 e2 e3 e4 e5=>by
  refine⟨?_,λ k hk=> ?_,fc.qual.trans e4.symm,λ p hp=>(by contradiction),(by rw[e1];rfl),λ y k hk=> ?_,λ i a hp=> ?_,λ q=>by rw[e3];exact fc.calm q⟩
  ·rw[e2]
   show xv F.scope sc=_;rw[fc.scope];rfl
  ·refine aj (fc.hid k hk) λ a h1 h2=> ?_
   exact⟨a,by rw[e1];exact dB X.ini h1,by rw[e3];exact h2⟩
  ·refine aj (yy (R:=λ k a=>C.ini[k]? =W6 a) UP (show clF.lookup y=W6 k from hk)) λ a h1 h2=> ?_
   exact⟨a,by rw[e5];exact h1,by rw[e1];exact dB X.ini h2⟩
  ·rw[e1];exact dB X.ini (fc.pins i a hp)
 refine cL (o:=F.an.comp k σ) (λ hA=> ?on) λ A hA=> ?os
 case on=>
  rw[hA]at h;refine yA (clF:=clF) (J:=λ i ads' objs acc=>∃j,j<=n/\pZ Γ (ju F sc clF σ.objs.length) j elt x a I i acc σ ⟨[],objs⟩ (λ vs SZ=>aJ (l9 (F.an.kind k) vs) λ o=>Q (.ob SZ.objs.length) ⟨σ.loc,SZ.objs++ [o]⟩)) ok hh WE hx X (yt hI) hsz ha hF ⟨n,ba _,h⟩ ?_ ?_ ?_
  ·rintro C' U7 fc' i ads' objs acc vs s' hi ⟨j,hj,hJ⟩ r' hc
   induction j with
   | zero=>exact hJ.elim
   | succ j=>
    refine aI (k8 (σ':=⟨[],objs⟩) hJ) λ _ hJ=> ?_;have hb:dT i I.n=W8:=by simpa[gh] using hi
    rw[hb]at hJ;rw[←hlen]at fc';refine aK ((ih j (by exact f_ ‹_›)).E U7 fc' hJ s' r') (λ u' SP h₂=> ?_) λ e SP h₂=> ?_
    ·revert h₂
     refine gU λ SU S1 v p S5 c₂ U6=> ?_;exact⟨SU,S1.objs,acc++ [v],S5.noLoc,(hc.mono p).append (.cons c₂ .nil),j,by exact f_ ‹_›,U6⟩
    ·obtain⟨_,_,_,_,_,_,f⟩:=h₂;exact f
  ·rintro i ads' objs acc ⟨j,_,hJ⟩
   induction j with
   | zero=>exact hJ.elim
   | succ j=>exact(k8 (σ':=⟨[],objs⟩) hJ).1
  ·rintro ads' objs acc vs D L s' ⟨j,_,hJ⟩ hc hp e
   induction j with
   | zero=>exact hJ.elim
   | succ j=>
    refine aI (k8 (σ':=⟨[],objs⟩) hJ) λ _ hJ=> ?_;have hb:dT I.n I.n=W9:=by
     cases q:dT I.n I.n with
     | false=>rfl
     | true=>exact absurd (by simpa[gh] using q) (gR I.n)
    rw[hb]at hJ;refine aj (bw hJ) λ ao hao hq=> ?_;exact fin ads' objs vs D L s' ao hp e (λ n=>sX (yL hao) (hc.mono (c9 _ _))) hq
 case os=>
  rw[hA]at h;revert h;refine du λ Tj hs he=> ?_;revert Tj;refine dw λ y0 h0=> ?_;have conv:∀ads' v,aW (cy ads') σ.objs v->aW (cy ads') (A.objs y0) v:=λ ads'=>(rX (ads:=ads') h0).1;refine aI (IZ (rX (ads:=ads) h0).2) λ hl0 hok0=> ?_;have step:∀C',bc w mg mb bud C'->FC w (ju F sc clF σ.objs.length) C'->∀i ads' y acc vs s',i<I.n->A.ok i y->fF (A.acc y)=W6 acc->bK C' ads' ⟨[(x,I.item i)],A.objs y⟩ s'->bk ads' acc vs->
    ai (ag pw w) C'.A (aZ elt C'.env) (λ u s'=>∃T7 acc' z,bK C' T7 ⟨[],A.objs z⟩ s'/\bk T7 acc' (vs++ [u])/\A.ok (i+1) z/\fF (A.acc z)=W6 acc') (λ _ _=>False) s':=by
   intro C' U7 fc' i ads' y acc vs s' hi hy Um r' hc;refine aI (bA (hs i y hi hy)) λ hfl h1=> ?_;refine aI (k8 (σ':=⟨[],A.objs y⟩) h1) λ _ h2=> ?_;refine aK ((ih n (ba _)).E U7 fc' h2 s' r') (λ u' SP h₂=> ?_) λ e SP h₂=> ?_
   ·revert h₂
    refine CC λ SU S1 v p S5 c₂ z U6=> ?_;have U6:nA σ.objs.length _ _ _ _:=U6;rw[show σ.objs.length=C'.ini.length from fc'.ini]at U6
    refine aj (S5.noLoc.fgt U6) λ TF T8 q₃=> ?_;refine aj (bw q₃) λ o ho q₄=> ?_;refine cE (I0 hfl Um ho q₄) λ e1 e2 e3=> ?_;exact⟨TF,acc++ [v],z,T8,e2 _ _ _ ((hc.mono p).append (.cons c₂ .nil)),e3,e1⟩
   ·obtain⟨_,_,_,_,_,_,f⟩:=h₂;exact f
  refine yA (clF:=clF) (J:=λ i ads' objs acc=>(i=0/\objs=σ.objs/\acc= [])∨∃y,objs=A.objs y/\A.ok i y/\fF (A.acc y)=W6 acc/\i<=I.n) ok hh WE hx X (yt hI) hsz ha hF (.inl ⟨rfl,rfl,rfl⟩) ?_ ?_ ?_
  ·intro C' U7 fc' i ads' objs acc vs s' hi hJ r' hc
   rw[←hlen]at fc';have go:∀y,bK C' ads' ⟨[(x,I.item i)],A.objs y⟩ s'->A.ok i y->fF (A.acc y)=W6 acc->_:=λ y r' hy Um=>
    aK (step C' U7 fc' i ads' y acc vs s' hi hy Um r' hc) (λ u' SP ⟨a1,a2,z,b1,b2,b3,b4⟩=>(⟨a1,A.objs z,a2,b1,b2, .inr ⟨z,rfl,b3,b4,hi⟩⟩:∃T7 objs' acc',bK C' T7 ⟨[],objs'⟩ SP/\bk T7 acc' (vs++ [u'])/\((i+1=0/\objs'=σ.objs/\acc'= [])∨∃y,objs'=A.objs y/\A.ok (i+1) y/\fF (A.acc y)=W6 acc'/\i+1<=I.n))) λ _ _ f=>f
   revert hJ;refine fz (λ zr=> ?_) (λ zr=> ?_)
   ·obtain⟨rfl,rfl,rfl⟩:=zr
    revert r';refine dk λ os' fr' m' Y=> ?_;exact go y0 ⟨os',fr',m',Y.conv (conv _)⟩ hok0 hl0
   ·obtain⟨y,rfl,hy,Um,_⟩:=zr
    exact go y r' hy Um
  ·rintro i ads' objs acc (⟨rfl,rfl,rfl⟩ | ⟨y,rfl,hy,Um,hle⟩)
   ·exact λ k ao e hk hn=>⟨ao,hk,λ _ _ r=>r⟩
   ·refine c_ (Nat.lt_or_eq_of_le hle) (λ hlt=> ?_) (λ zr=> ?_)
    ·exact(k8 (σ':=⟨[],A.objs y⟩) (bA (hs i y hlt hy)).2).1
    ·subst zr
     exact(k8 (σ':=⟨[],A.objs y⟩) (he y hy)).1
  ·intro ads' objs acc vs D L s' hJ hc hp e
   have go:∀y,A.ok I.n y->fF (A.acc y)=W6 acc->kX C σ m ads' (A.objs y) vs D L s'->compPost (ag pw w) C.A E use Qv (.ref D) L (.ok .next) s':=λ y hy Um e=>
    fin ads' _ vs D L s' (A.acc y) hp e (λ n=>sX Um (hc.mono (c9 _ _))) (k8 (σ':=⟨[],A.objs y⟩) (he y hy)).2
   revert hJ;refine fz (λ zr=> ?_) (λ zr=> ?_)
   ·obtain⟨hi,rfl,rfl⟩:=zr
    refine dY e.rep λ os' fr' Y d1 d2=> ?_;exact go y0 (hi ▸ hok0) hl0 ⟨⟨os',fr',Y.conv (conv _),d1,d2⟩,e.list,e.dL,e.dg,e.ns,e.lL,e.lD,e.lg⟩
   ·obtain⟨y,rfl,hy,Um,_⟩:=zr
    exact go y hy Um e
end
end
section
open PySem.Calls
section
variable{w:aQ}{mg mb:Tm}{C:Cx}{ads:Ld}{σ:AS}{bud:Nat}{F:Cf}{Q:Ta}{R:Tn}{Γ:ak->Option aH}
theorem ql[Decidable c]{α:Type _}{t:c->Option α}{x:α}(h:(if h:c then t h else W7)=W6 x):∃hc,t hc=W6 x:=by
 by_cases hc:c
 ·rw[dif_pos hc]at h;exact⟨hc,h⟩
 ·rw[dif_neg hc]at h;contradiction
theorem I1(h:nL s=W7):l7 s=W9:=by
 cases q:l7 s with
 | false=>rfl
 | true=>
  have hc:=dc q;have h:= (dif_pos hc).symm.trans h;exact Expr.Slice.elim (motive_1:=λ e=>∀hc:e.ctorIdx=26,Expr.Slice.elim e hc (λ lo hi st _=>W6 (lo,hi,st))=W7->W8=W9) s hc (λ _ _ _ _ _ h=>by contradiction) hc h
theorem I2{x}(h:nL s=W6 x):∃p,s= .Slice x.1 x.2.1 x.2.2 p:=by
 obtain⟨hc,h⟩:=ql h;exact Expr.Slice.elim (motive_1:=λ e=>∀hc:e.ctorIdx=26,Expr.Slice.elim e hc (λ lo hi st _=>W6 (lo,hi,st))=W6 x->∃p,e= .Slice x.1 x.2.1 x.2.2 p) s hc (λ _ _ _ p _ h=>by injection h with h;subst h;exact⟨p,rfl⟩) hc h
theorem I3{x}(h:pX f=W6 x):f= .Attribute x.1 x.2.1 x.2.2:=by
 obtain⟨hc,h⟩:=ql h;exact Expr.Attribute.elim (motive_1:=λ e=>∀hc:e.ctorIdx=20,Expr.Attribute.elim e hc (λ o n p=>W6 (o,n,p))=W6 x->e= .Attribute x.1 x.2.1 x.2.2) f hc (λ _ _ _ _ h=>by injection h with h;subst h;rfl) hc h
theorem nY{x}(h:g' f=W6 x):f= .Name x.1 x.2:=by
 obtain⟨hc,h⟩:=ql h;exact Expr.Name.elim (motive_1:=λ e=>∀hc:e.ctorIdx=23,Expr.Name.elim e hc (λ x p=>W6 (x,p))=W6 x->e= .Name x.1 x.2) f hc (λ _ _ _ h=>by injection h with h;subst h;rfl) hc h
theorem I4{x}(h:pW f=W6 x):∃p,f= .Dict x.1 x.2 p:=by
 obtain⟨hc,h⟩:=ql h;exact Expr.Dict.elim (motive_1:=λ e=>∀hc:e.ctorIdx=6,Expr.Dict.elim e hc (λ ks vs _=>W6 (ks,vs))=W6 x->∃p,e= .Dict x.1 x.2 p) f hc (λ _ _ p _ h=>by injection h with h;subst h;exact⟨p,rfl⟩) hc h
theorem yN(h:pY g=W6 x):∃p,g= [⟨.Name x.1 p,x.2, [],0⟩]:=by
 induction g with
 | nil=>contradiction
 | cons c r=>
  induction r with
  | cons _ _=>contradiction
  | nil=>
   obtain⟨t,it,ifs,a⟩:=c;induction ifs with
   | cons _ _=>contradiction
   | nil=>
    have h:(match W_ (a=0) with
     | true=>(g' t).bind λ x=>W6 (x.1,it)
     | false=>W7)=W6 x:=h
    refine cF (b:=W_ (a=0)) (λ q=> ?bt) λ q=> ?bf
    case bf=>rw[q]at h;contradiction
    case bt=>
     rw[q]at h;refine aj (bO.mp h) λ y h1 h2=> ?_;injection h2 with zq;subst zq
     rw[nY h1,of_decide_eq_true q];exact⟨_,rfl⟩
theorem I5(h:sv as f):∃i d,as= [.num i,d]/\f i d:=by
 cases as with
 | nil=>exact aF h
 | cons a r=>cases r with
  | nil=>cases a <;> exact aF h
  | cons d r=>cases r with
   | cons _ _=>cases a <;> exact aF h
   | nil=>cases a <;> first | exact aF h | exact⟨_,_,rfl,h⟩
theorem sY(h:mf e=W8)(x:az):foldedSetIterable e env x=pure x:=by
 cases e <;> first | rfl | contradiction
def sZ(Γ:ak->Option aH)(F:Cf)(n:Nat)(a:AV)(op Ub:CmpOp)(TU:List CmpOp)(e':Expr)(UN:List Expr)(Q:Bool->AS->Prop)(R:Tn)(b:AV)(SN:AS):Prop:=match TU,UN with
 | [], []=>match kU F SN Ub b e' with
  | some c2=>fs op a b SN (λ c=>Q (c && c2) SN)
  | none=>fs op a b SN (λ c=>cond c (hO Γ F n b (Ub::TU) (e'::UN) SN Q R) (Q W9 SN))
 | _,_=>fs op a b SN (λ c=>cond c (hO Γ F n b (Ub::TU) (e'::UN) SN Q R) (Q W9 SN))
theorem yO{op Ub:CmpOp}{TU:List CmpOp}{UN:List Expr}{Q:Bool->AS->Prop}(h:sZ Γ F n a op Ub TU e' UN Q R b SN):
  (∃c2,TU= []/\UN= []/\kU F SN Ub b e'=W6 c2/\fs op a b SN (λ c=>Q (c && c2) SN))∨fs op a b SN (λ c=>cond c (hO Γ F n b (Ub::TU) (e'::UN) SN Q R) (Q W9 SN)):=by
 induction TU with
 | cons _ _=>exact .inr h
 | nil=>
  induction UN with
  | cons _ _=>exact .inr h
  | nil=>
   cases hs:kU F SN Ub b e' with
   | some c2=>
    refine .inl ⟨c2,rfl,rfl,rfl, ?_⟩;have h:(match kU F SN Ub b e' with
     | some c2=>fs op a b SN (λ c=>Q (c && c2) SN)
     | none=>fs op a b SN (λ c=>cond c (hO Γ F n b (Ub:: []) (e':: []) SN Q R) (Q W9 SN))):=h
    rw[hs]at h;exact h
   | none=>
    have h:(match kU F SN Ub b e' with
     | some c2=>fs op a b SN (λ c=>Q (c && c2) SN)
     | none=>fs op a b SN (λ c=>cond c (hO Γ F n b (Ub:: []) (e':: []) SN Q R) (Q W9 SN))):=h
    rw[hs]at h;exact .inr h
theorem I6(ih:∀j,j<=n->jY w mg mb bud Γ j)(ok:bc w mg mb bud C)(fc:FC w F C)(h:bh Γ F (n+1) (.ListComp elt gens sc pos) σ Q R):W w C ads σ (aZ (.ListComp elt gens sc pos) C.env) RV Q R:=by
 intro s r;have h:aJ (pY gens) λ g=>aG (F.calm && (mf g.2 && (nM sc && gF sc g.1))) (aJ (gn F.cells sc.names []) λ cl=>bh Γ F n g.2 σ (λ a SN=>sW Γ F n elt g.1 sc cl (key pos) a SN Q) R):=h;revert h;refine cj bw λ g hg h=> ?_;revert h;refine fT fG λ hc hs h=> ?_;revert hs;refine cK bE.mp λ hs h2=> ?_;revert h2;refine cK bE.mp λ h2 h3=> ?_;refine aj (bw h) λ clF VF hE=> ?_;refine cv (yN hg) λ px SY=> ?_;subst SY;refine aj (sP (l2:=C.cells) (R:=λ k a=>C.ini[k]? =W6 a) fc.cells VF .nil) λ cl hcl2 UP=> ?_;have hk:sc.kind= .function:=by simpa using(bE.mp h2).1
 have hn:∀x∈sc.names,x.2= .local->sc.names.lookup x.1=W6 .local:=λ y hy e=>by
  have:=i8.mp (bE.mp h2).2 y hy;rw[e]at this;exact mu this
 rw[eval_ListComp];refine wG (use:=W7) rfl (sY hs) (sO hcl2) hk hn ?_;show ai _ _ (aZ g.2 C.env) _ _ _;refine((ih n (ba _)).E ok fc hE).here r λ SO SQ a u s₁ SW SR c₁ h₁=> ?_;revert SR;refine dk λ os fr m X=> ?_;exact yM (use:=W7) (E:=dD C R) (Qv:=ee C ads RV Q) (itE:=g.2) (px:=px) (pos:=pos) ok fc ih hc h2 h3 UP X c₁ h₁ λ ads' objs vs D L s' ao hp e hr q=>IX (SW.trans hp) e hr q
theorem iW(G:aX w mg mb bud Γ):∀n,jY w mg mb bud Γ n:=by
 intro n;induction n using Nat.strongRecOn with
 | _ n Ww=>
 cases n with
 | zero=>exact⟨λ _ _ h=>h.elim,λ _ _ h=>h.elim,λ _ _ _ h=>h.elim,λ _ _ h=>h.elim,λ _ _ h=>h.elim,λ _ _ h=>h.elim,λ _ _ _ h=>h.elim,λ _ _ _ h=>h.elim⟩
 | succ n=>
  have ih:=Ww n (ic n)
  constructor
  ·
   intro C F ads σ e Q R ok fc h;cases e with
   | Constant c k p=>
    refine aj (bw (show aJ (pq c) λ v=>Q v σ from h)) λ v hv h=> ?_
    exact(sT ok fc (e:= .Constant c k p) hv h).toG
   | Name x p=>
    refine aj (bw (show aJ (jR F σ x) λ v=>aG (!(x== ("__debug__" :ab)) && !(x== ("__classdict__" :ab))) (Q v σ) from h)) λ v hv h=> ?_
    refine cE (fG h) λ h1 h2 h3=> ?_;exact(Hs ok fc hv (mn h1) (mn h2) h3).toG
   | BinOp l op r p=>
    have h:bh Γ F n l σ (λ a SN=>bh Γ F n r SN (λ b SZ=>pL op a b SZ Q) R) R:=h;intro s r;refine Ej ((ih.E ok fc h).here r λ SO SQ a u s₁ SW SR c₁ h₁=> ?_);refine(ih.E ok fc h₁).here SR λ SU S1 b v SP Tb S5 c₂ h₂=> ?_;exact(Hw h₂ (c₁.mono Tb) c₂).toG.on (SW.trans Tb) S5
   | UnaryOp op x p=>
    have h:bh Γ F n x σ (λ a SN=>r_ op a SN Q) R:=h;intro s r;refine Er ((ih.E ok fc h).here r λ SO SQ a u s₁ SW SR c₁ h₁=> ?_);exact(Hx h₁ c₁).toG.on SW SR
   | BoolOp op vs p=>exact ih.B ok fc h
   | IfExp t b o p=>
    have h:gG Γ F n t σ (λ c SN=>cond c (bh Γ F n b SN Q R) (bh Γ F n o SN Q R)) R:=h;intro s r;refine Ex ((ih.T ok fc h).here r λ SO SQ a u s₁ SW SR c₁ h₁=> ?_);subst c₁;cases a with
    | true=>exact(ih.E ok fc h₁).on SW SR
    | false=>exact(ih.E ok fc h₁).on SW SR
   | Compare l ops rs p=>
    have h:aG (!lastMarks ops rs) (bh Γ F n l σ (λ a SN=>hO Γ F n a ops rs SN (λ b SZ=>Q (.bo b) SZ) R) R):=h;intro s r;revert h;refine cK bA λ hm h=> ?_;refine IW (mn hm) ((ih.E ok fc h).here r λ SO SQ a u s₁ SW SR c₁ h₁=> ?_);refine(ih.Cv ok fc c₁ h₁).here SR λ SU S1 b v SP Tb S5 c₂ h₂=> ?_;subst c₂;exact⟨SU,S1, .bo v,SW.trans Tb,S5,rfl,h₂⟩
   | Attribute o name p=>
    have h:aG (kV o) (bh Γ F n o σ (λ a SN=>pO a name SN Q) R):=h;intro s r;revert h;refine cK bA λ hb h=> ?_;refine ES ((ih.E ok fc h).here r λ SO SQ a u s₁ SW SR c₁ h₁=>(HE ok h₁ c₁).toG.on SW SR) ?_;show (do let o ←attributeBase _ _ _ _;_)=_
    rw[sQ hb]
   | Subscript v sl p=>
    have h:(match nL sl with
     | some (lo,hi,st)=>match st with
      | some _=>False
      | none=>bh Γ F n v σ (λ a SN=>nP Γ F n lo SN (λ l SZ=>nP Γ F n hi SZ (λ h σ3=>sg a l h σ3 Q) R) R) R
     | none=>bh Γ F n v σ (λ a SN=>bh Γ F n sl SN (λ i SZ=>se a i SZ Q) R) R):=h
    intro s r;refine cL (o:=nL sl) (λ U9=> ?on) λ x U9=> ?os
    case os=>
     obtain⟨lo,hi,st⟩:=x;rw[U9]at h;refine cv (I2 U9) λ p' SY=> ?_;subst SY;cases st with
     | some _=>exact h.elim
     | none=>
      refine wB ((ih.E ok fc h).here r λ SO SQ a u s₁ SW SR c₁ h₁=> ?_);refine Ey ((ih.O ok fc h₁).here SR λ SU S1 b v SP Tb S5 c₂ h₂=> ?_);refine(ih.O ok fc h₂).here S5 λ TF UA b₃ v₃ s₃ T9 T8 c₃ S_=> ?_;refine toG <| wpAny_evalPart_none ?_
      refine toG <| el (HR S_ (c₁.mono (Tb.trans T9)) ?_ c₃ T8) (λ _ _ x=>x.grow (SW.trans (Tb.trans T9))) λ _ _ x=>x
      cases v with
      | none=>exact c₂
      | some v=>exact aU.mono T9 c₂
    case on=>
     rw[U9]at h;refine wB ((ih.E ok fc h).here r λ SO SQ a u s₁ SW SR c₁ h₁=> ?_);refine(ih.E ok fc h₁).here SR λ SU S1 b v SP Tb S5 c₂ h₂=> ?_;exact(HJ ok (I1 U9) h₂ (c₁.mono Tb) c₂).toG.on (SW.trans Tb) S5
   | Tuple es ctx p=>
    have h:aG (es.all noStar) (iU Γ F n es σ (λ vs SN=>aG (Nat.ble vs.length 1000) (Q (.ob SN.objs.length) ⟨SN.loc,SN.objs++ [.tup vs]⟩)) R):=h;revert h;refine cK bA λ hs h=> ?_;intro s r;refine EP ((ih.L ok fc hs h).here r λ SO SQ us vs s₁ SW SR c₁ h₁=> ?_);revert h₁;refine cK bA λ hn h₁=> ?_;revert SR;refine dk λ os fr m X=> ?_;refine⟨?_,SO++ [s₁.heap.objs.size],_, .ob SQ.objs.length,SW.trans (c9 _ _),⟨_,_,_,X.push (tk:=s₁.toks) (ao:= .tup vs) rfl ⟨us.toArray,0,rfl, ?_⟩⟩,⟨s₁.heap.objs.size, ?_,rfl⟩,h₁⟩
    ·rw[←c₁.len]
     have:=gM hn;rw[gT];lia
    ·exact c₁.mono (c9 _ _)
    ·rw[X.objs.len,X.len];simp
   | List es p=>
    have h:aG (es.all noStar) (iU Γ F n es σ (λ vs SN=>aJ (l9 (F.an.kind (key p)) vs) λ o=>aG (Nat.ble vs.length 1000) (Q (.ob SN.objs.length) ⟨SN.loc,SN.objs++ [o]⟩)) R):=h;revert h;refine cK bA λ hs h=> ?_;intro s r;refine ER ((ih.L ok fc hs h).here r λ SO SQ us vs s₁ SW SR c₁ h₁=> ?_);revert SR;refine dk λ os fr m X=> ?_;revert h₁;refine cj bw λ o ho h₁=> ?_;revert h₁;refine cK bA λ hn h₁=> ?_;refine⟨?_,SO++ [s₁.heap.objs.size],_, .ob SQ.objs.length,SW.trans (c9 _ _),⟨_,_,_,X.push (tk:=s₁.toks) (ao:=o) rfl (sX (yL ho) (c₁.mono (c9 _ _)))⟩,⟨s₁.heap.objs.size, ?_,rfl⟩,h₁⟩
    ·rw[←c₁.len]
     have:=gM hn;rw[gT];lia
    ·rw[X.objs.len,X.len];simp
   | Call f args kws p=>
    cases kws with
    | cons _ _=>exact aF h
    | nil=>
    have h:(match pX f with
     | some (o,name,apos)=>aG (kV o && ((apos.endLine==p.line) && (dT args.length 29 && args.all noStar))) (match pW o with
      | some (ks,vs)=>aG (name== ("get" :ab) && (dT ks.length 10 && !ks.isEmpty)) (aJ (bZ kW ks) λ is=>aG (nO is && aO is.length vs.length) (aJ (bZ (gC F σ) vs) λ us=>aG (us.all jt) (aJ (bZ (gC F σ) args) λ as=>sv as λ i d=>
        aG (jt d) (mh i is us d σ Q))))
      | none=>bh Γ F n o σ (λ a SN=>aJ (si a name SN) λ c=>aG (sr Γ c) (iU Γ F n args SN (λ vs SZ=>so Γ F c a vs SZ Q R) R)) R)
     | none=>aJ (g' f) λ x=>aG (args.all noStar) <| bh Γ F n f σ (λ a SN=>iU Γ F n args SN (λ vs SZ=>aG (sq Γ a SZ) (sm Γ F a vs SZ Q R)) R) R):=h
    refine cL (o:=pX f) (λ hf=> ?on) λ x hf=> ?os
    case os=>
     obtain⟨o,name,apos⟩:=x;rw[hf]at h;obtain rfl:=I3 hf;revert h;refine fT fG λ hb hl h=> ?_;revert hl;refine cK bE.mp λ hl hfs=> ?_;refine aI (bE.mp hfs) λ UH hs=> ?_;cases hd:pW o with
     | some x=>
      obtain⟨ks,vs⟩:=x;rw[hd]at h;refine cv (I4 hd) λ dp SY=> ?_;subst SY;revert h;refine fT fG λ Vj hks h=> ?_;refine aI (bE.mp hks) λ hk1 hk2=> ?_;revert h;refine cj bw λ is his h=> ?_;revert h;refine fT fG λ Vu hln h=> ?_;revert h;refine cj bw λ us hus h=> ?_;revert h;refine cK bA λ Ur h=> ?_;revert h;refine cj bw λ as has h=> ?_;revert h;refine CU I5 λ i d zq2 h=> ?_;subst zq2;revert h;refine cK bA λ hpd h=> ?_;have Vj:name= ("get" :ab):=iw Vj;show W w C ads σ (aZ (.Call (.Attribute (.Dict ks vs dp) name apos) args [] p) C.env) RV Q R;rw[Vj];exact(IH ok fc hl UH hs his hk1 hk2 Vu hln hus Ur has hpd h).toG
     | none=>
      rw[hd]at h;intro s r;refine Iq hb hl UH hs ((ih.E ok fc h).here r λ SO SQ a u s₁ SW SR c₁ h₁ pl=> ?_);revert h₁;refine cj bw λ c hc h₁=> ?_;revert h₁;refine cK bA λ hk h₁=> ?_;refine IL ok hc c₁ SR λ f s' r' hf=> ?_;refine(yH (P:= (K0 w.params).In) (QL:=_) hs (IU G hk hf) (λ r=>(ih.L ok fc hs h₁).on (cN _) r) λ SU S1 vs us Tb c₂ h₂=>⟨λ s' ⟨os,fr,m,X⟩=>ok.K.keeps X.F.keep, ?_⟩).on SW r';exact IS ok fc G h₂ hf (c₁.mono Tb) c₂
    case on=>
     rw[hf]at h;revert h;refine cj bw λ x hx h=> ?_;obtain rfl:=nY hx;revert h;refine cK bA λ hs h=> ?_;intro s r;refine Ez rfl ((ih.E ok fc h).here r λ SO SQ a u s₁ SW SR c₁ h₁=> ?_);refine(yH (P:=yJ w C Γ u a) (QL:=_) hs (IQ ok G) (λ r=>(ih.L ok fc hs h₁).on (cN _) r) λ SU S1 vs us Tb c₂ h₂=> ?_).on SW SR;revert h₂;refine cK bA λ hk h₂=> ?_;exact⟨λ s' r'=>⟨SU,S1,s',rfl,r',c₁.mono Tb,hk⟩,IP ok fc G h₂ (c₁.mono Tb) c₂⟩
   | ListComp elt gens sc p=>exact I6 (λ j hj=>Ww j (Nat.lt_succ_of_le hj)) ok fc h
   | Lambda ps b sc p=>
    have h:aJ (F.an.lam (key p)) λ i=>aJ F.code λ ct=>bG i=⟨F.qual++ "<lambda>",ps,b,sc,p⟩/\aG (ps.defaults.isEmpty && ps.kw_defaults.isEmpty) (aJ ((σ.objs[ct.2]?).bind xx) λ l=>
     aG (mi p l) (aJ (gn F.cells sc.names []) λ cs=>Q (.ob (σ.objs.length+1)) (nN σ ct.2 l (F.qual++ "<lambda>") i p cs))):=h
    revert h;refine cj bw λ i _ h=> ?_;revert h;refine ve bw λ ct hct hi h=> ?_;revert h;refine cK bA λ V5 h=> ?_;revert h;refine cj bw λ l hl h=> ?_;revert h;refine cK bA λ WK h=> ?_;revert h;refine cj bw λ cs Wo h=> ?_;revert hl;refine cj bO.mp λ ao hao hl=> ?_;have hl:σ.objs[ct.2]? =W6 (.tab l):=by
     cases ao with
     | tab l'=>cases hl;exact hao
     | _=>contradiction
    exact(Iz ok fc hi hct V5 hl WK Wo h).toG
   | _=>exact aF h
  ·
   intro C F ads σ e Q R ok fc h;intro s r;cases e with
   | none=>exact toG <| wpAny_evalPart_none ⟨ads,σ,W7,cN _,r,rfl,h⟩
   | some e=>
    have h:bh Γ F n e σ (λ a SN=>Q (W6 a) SN) R:=h;refine((ih.E ok fc h).here r λ SO SQ a u s₁ SW SR c₁ h₁=> ?_);exact⟨SO,SQ,W6 u,SW,SR,c₁,h₁⟩
  ·
   intro C F ads σ es Q R pos ok fc hs h;intro s r;cases es with
   | nil=>exact toG <| spliced_nil ⟨ads,σ, [],cN _,r, .nil,h⟩
   | cons e es=>
    have h:bh Γ F n e σ (λ a SN=>iU Γ F n es SN (λ as SZ=>Q (a::as) SZ) R) R:=h;obtain⟨h1,h2⟩:=bE.mp (by rw[jI]at hs;exact hs)
    rw[kY h1];refine EA ((ih.E ok fc h).here r λ SO SQ a u s₁ SW SR c₁ h₁=> ?_);refine(ih.L ok fc h2 h₁).here SR λ SU S1 us vs SP Tb S5 c₂ h₂=> ?_;exact⟨SU,S1,_,SW.trans Tb,S5, .cons (c₁.mono Tb) c₂,h₂⟩
  ·
   intro C F ads σ op es Q R pos ok fc h;intro s r;cases es with
   | nil=>exact aF h
   | cons e es=>
    cases es with
    | nil=>exact ih.E ok fc (show bh Γ F n e σ Q R from h) s r
    | cons Vb rest=>
     have h:bh Γ F n e σ (λ a SN=>match a with
      | .bo b=>match (generalizing:=false) op with
       | .And=>cond b (mj Γ F n op (Vb::rest) SN Q R) (Q (.bo W9) SN)
       | .Or=>cond b (Q (.bo W8) SN) (mj Γ F n op (Vb::rest) SN Q R)
      | _=>False) R:=h
     cases op with
     | And=>
      refine Ew ((ih.E ok fc h).here r λ SO SQ a u s₁ SW SR c₁ h₁=> ?_);cases u with
      | bo b=>
       obtain rfl:=c₁;refine toG <| jE ?_
       cases b with
       | true=>exact(ih.B ok fc h₁).on SW SR
       | false=>exact⟨SO,SQ, .bo W9,SW,SR,rfl,h₁⟩
      | _=>exact aF h₁
     | Or=>
      refine Eu ((ih.E ok fc h).here r λ SO SQ a u s₁ SW SR c₁ h₁=> ?_);cases u with
      | bo b=>
       obtain rfl:=c₁;refine toG <| jE ?_
       cases b with
       | true=>exact⟨SO,SQ, .bo W8,SW,SR,rfl,h₁⟩
       | false=>exact(ih.B ok fc h₁).on SW SR
      | _=>exact aF h₁
  ·
   intro C F ads σ e Q R ok fc h;intro s r;have plain:bh Γ F n e σ (λ a SN=>match a with
     | .bo b=>Q b SN
     | _=>False) R->(fh e C.env (aZ e C.env)= (do let v ←aZ e C.env;standAt e.pos;fR [v] (truthy v)))->ai (ag pw w) C.A (fh e C.env (aZ e C.env)) (ee C ads RE Q) (dD C R) s:=λ h he=>by
    refine Em ((ih.E ok fc h).here r λ SO SQ a u s₁ SW SR c₁ h₁=> ?_) he;cases u with
    | bo b=>obtain rfl:=c₁;exact toG <| jE ⟨SO,SQ,_,SW,SR,rfl,h₁⟩
    | _=>exact aF h₁
   cases e with
   | UnaryOp op x p=>
    cases op with
    | Not=>
     have h:gG Γ F n x σ (λ b SN=>Q (!b) SN) R:=h;refine En ((ih.T ok fc h).here r λ SO SQ a u s₁ SW SR c₁ h₁=> ?_);subst c₁;exact⟨SO,SQ,_,SW,SR,rfl,h₁⟩
    | _=>exact aF h
   | BoolOp op vs p=>exact ih.A ok fc h s r
   | IfExp=>exact aF h
   | Compare l ops rs p=>
    have h:aG (!lastMarks ops rs) (bh Γ F n l σ (λ a SN=>hO Γ F n a ops rs SN Q R) R):=h;revert h;refine cK bA λ hm h=> ?_;refine IV (mn hm) ((ih.E ok fc h).here r λ SO SQ a u s₁ SW SR c₁ h₁=> ?_);exact(ih.Ct ok fc c₁ h₁).on SW SR
   | _=>exact plain h rfl
  ·
   intro C F ads σ op es Q R pos t ok fc h;intro s r;cases es with
   | nil=>
    cases op with
    | And=>exact toG <| isTrue_and_nil ⟨ads,σ,_,cN _,r,rfl,h⟩
    | Or=>exact toG <| isTrue_or_nil ⟨ads,σ,_,cN _,r,rfl,h⟩
   | cons e es=>
    have h:gG Γ F n e σ (λ b SN=>match (generalizing:=false) op with
     | .And=>cond b (ml Γ F n op es SN Q R) (Q W9 SN)
     | .Or=>cond b (Q W8 SN) (ml Γ F n op es SN Q R)) R:=h
    cases op with
    | And=>
     refine Eo ((ih.T ok fc h).here r λ SO SQ a u s₁ SW SR c₁ h₁=> ?_);subst c₁;cases a with
     | true=>exact(ih.A ok fc h₁).on SW SR
     | false=>exact⟨SO,SQ,_,SW,SR,rfl,h₁⟩
    | Or=>
     refine Ep ((ih.T ok fc h).here r λ SO SQ a u s₁ SW SR c₁ h₁=> ?_);subst c₁;cases a with
     | true=>exact⟨SO,SQ,_,SW,SR,rfl,h₁⟩
     | false=>exact(ih.A ok fc h₁).on SW SR
  ·
   intro C F ads σ a u ops es Q R pos ok fc hc h;intro s r;cases ops with
   | nil=>exact aF h
   | cons op ops=>
    cases es with
    | nil=>exact aF h
    | cons e es=>
     cases ops with
     | nil=>
      cases es with
      | cons _ _=>exact aF h
      | nil=>
       have h:bh Γ F n e σ (λ b SN=>fs op a b SN (λ c=>Q c SN)) R:=h;refine wA ((ih.E ok fc h).here r λ SO SQ a u s₁ SW SR c₁ h₁=> ?_);exact aK ((jW ok h₁ (hc.mono SW) c₁).toG.on SW SR) (λ _ _ ⟨x1,x2,x3,x4,x5,x6,e,x7⟩=>⟨x1,x2,x3,x4,x5,x6,e ▸ x7⟩) λ _ _ x=>x
     | cons Ub TU=>
      cases es with
      | nil=>exact aF h
      | cons e' UN=>
       have h:bh Γ F n e σ (λ b SN=>sZ Γ F n a op Ub TU e' UN Q R b SN) R:=h;refine Et ((ih.E ok fc h).here r λ SO SQ b v s₁ SW SR c₁ h₁=> ?_);rcases yO h₁ with⟨c2,rfl,rfl,hc2,h₁⟩ | h₁
       ·refine(jW ok h₁ (hc.mono SW) c₁).toG.here SR λ SU S1 c w SP Tb S5 c₂ h₂=> ?_
        obtain rfl:=c₂;revert h₂;refine bF λ Tj h₂=> ?_;subst Tj;refine dY (yK hc2) λ i j zq2 hj Vt=> ?_;subst zq2;refine toG <| jE ?_
        cases w with
        | true=>
         refine wA ((sT (Q:=λ v σ'=>v= .num j/\σ'=S1) ok fc hj ⟨rfl,rfl⟩).toG.here S5 λ TF UA b₃ v₃ s₃ T9 T8 c₃ S_=> ?_);revert S_;refine bF λ Tj SY=> ?_;subst Tj;subst SY;exact aK ((jW ok (Vt h₂) (c₁.mono (Tb.trans T9)) c₃).toG.on (SW.trans (Tb.trans T9)) T8) (λ _ _ ⟨x1,x2,x3,x4,x5,x6,e,x7⟩=>⟨x1,x2,x3,x4,x5,x6,e ▸ x7⟩) λ _ _ x=>x
        | false=>exact⟨SU,S1,_,SW.trans Tb,S5,rfl,h₂⟩
       ·refine(jW ok h₁ (hc.mono SW) c₁).toG.here SR λ SU S1 c w SP Tb S5 c₂ h₂=> ?_
        obtain rfl:=c₂;revert h₂;refine bF λ Tj h₂=> ?_;subst Tj;refine toG <| jE ?_
        cases w with
        | true=>exact(ih.Cv ok fc (c₁.mono Tb) h₂).on (SW.trans Tb) S5
        | false=>exact⟨SU,S1,_,SW.trans Tb,S5,rfl,h₂⟩
  ·
   intro C F ads σ a u ops es Q R pos ok fc hc h;intro s r;cases ops with
   | nil=>exact aF h
   | cons op ops=>
    cases es with
    | nil=>exact aF h
    | cons e es=>
     cases ops with
     | nil=>
      cases es with
      | cons _ _=>exact aF h
      | nil=>
       have h:bh Γ F n e σ (λ b SN=>fs op a b SN (λ c=>Q c SN)) R:=h;refine wz ((ih.E ok fc h).here r λ SO SQ a u s₁ SW SR c₁ h₁=> ?_);refine(jW ok h₁ (hc.mono SW) c₁).toG.here SR λ SU S1 c w SP Tb S5 c₂ h₂=> ?_;obtain rfl:=c₂;revert h₂;refine bF λ Tj h₂=> ?_;subst Tj;exact toG <| jE ⟨SU,S1,_,SW.trans Tb,S5,rfl,h₂⟩
     | cons Ub TU=>
      cases es with
      | nil=>exact aF h
      | cons e' UN=>
       have h:bh Γ F n e σ (λ b SN=>sZ Γ F n a op Ub TU e' UN Q R b SN) R:=h;refine Es ((ih.E ok fc h).here r λ SO SQ b v s₁ SW SR c₁ h₁=> ?_);rcases yO h₁ with⟨c2,rfl,rfl,hc2,h₁⟩ | h₁
       ·refine(jW ok h₁ (hc.mono SW) c₁).toG.here SR λ SU S1 c w SP Tb S5 c₂ h₂=> ?_
        obtain rfl:=c₂;revert h₂;refine bF λ Tj h₂=> ?_;subst Tj;refine dY (yK hc2) λ i j zq2 hj Vt=> ?_;subst zq2;refine toG <| jE ?_
        cases w with
        | true=>
         refine wz ((sT (Q:=λ v σ'=>v= .num j/\σ'=S1) ok fc hj ⟨rfl,rfl⟩).toG.here S5 λ TF UA b₃ v₃ s₃ T9 T8 c₃ S_=> ?_);revert S_;refine bF λ Tj SY=> ?_;subst Tj;subst SY;refine(jW ok (Vt (QQ:=λ c=>Q c _) h₂) (c₁.mono (Tb.trans T9)) c₃).toG.here T8 λ UU Vf c w TB p₄ VZ c₄ TM=> ?_;obtain rfl:=c₄;revert TM;refine bF λ Tj TM=> ?_;subst Tj;exact toG <| jE ⟨UU,Vf,_,SW.trans (Tb.trans (T9.trans p₄)),VZ,rfl,TM⟩
        | false=>exact⟨SU,S1,_,SW.trans Tb,S5,rfl,h₂⟩
       ·refine(jW ok h₁ (hc.mono SW) c₁).toG.here SR λ SU S1 c w SP Tb S5 c₂ h₂=> ?_
        obtain rfl:=c₂;revert h₂;refine bF λ Tj h₂=> ?_;subst Tj;refine toG <| jE ?_
        cases w with
        | true=>exact(ih.Ct ok fc (c₁.mono Tb) h₂).on (SW.trans Tb) S5
        | false=>exact⟨SU,S1,_,SW.trans Tb,S5,rfl,h₂⟩
end
end
section
open PySem.Calls
section
variable{w:aQ}{mg mb:Tm}{C:Cx}{ads:Ld}{σ:AS}{bud:Nat}{F:Cf}{R:Tn}{Γ:ak->Option aH}
theorem nZ(h:ix e=W8):swapsWith e t n env=pure W9:=by
 cases e <;> first | rfl | injection h
theorem yP(hk:C.scope.kind= .function):C.env.blockKind= .function:=by
 have h:C.env.scope.kind= .function:=hk;unfold Env.blockKind;simp only[h]
 first | rfl | decide
theorem yQ(ok:bc w mg mb bud C)(fc:FC w F C)(h:nQ F x v σ=W6 σ')(c:aU ads v u)(r:bK C ads σ s)
  (q:∀s',bK C ads σ' s'->Q () s'):aC (ag pw w) C.A (storeName C.env x u) Q E s:=by
 revert r;refine dk λ os fr m X=> ?_;have h:(match F.scope.names.lookup x with
  | some .local=>W6 ⟨dU x v σ.loc,σ.objs⟩
  | some .cell=>(F.cells.lookup x).bind λ k=>(σ.objs[k]?).bind λ o=>match xy o with
   | true=>W6 ⟨σ.loc,σ.objs.set k (.cel v)⟩
   | false=>W7
  | _=>W7)=W6 σ':=h
 refine cL (o:=F.scope.names.lookup x) (λ hk=> ?on) λ kd hk=> ?os
 case on=>rw[hk]at h;contradiction
 case os=>
  rw[hk]at h;have hx:C.env.kindOf x=W6 kd:=by show C.scope.names.lookup x=_;rw[←fc.scope];exact hk
  induction kd with
  | «local» =>
   injection h with zq;subst zq
   exact rh hx X.F.ns (λ h' hn hs=>q _ ⟨_,_,_,X.store (tk:=s.toks+1) hn hs c⟩) (nX ok.kind)
  | cell=>
   refine aj (bO.mp h) λ k hl h=> ?_;refine aj (bO.mp h) λ o ho h=> ?_;refine aj (fc.cells x k hl) λ a ha hi=> ?_;have hax:=dB X.ini hi;refine cO (dZ X hax ho) λ ob e0 e1 e2=> ?_;have hc:∃v0,ob.data= .cell v0/\σ'=⟨σ.loc,σ.objs.set k (.cel v)⟩:=by
    induction o with
    | cel v=>(injection h with zq;subst zq);obtain⟨u,e,_⟩:=e1;exact⟨_,e,rfl⟩
    | cl0=>(injection h with zq;subst zq);exact⟨_,e1,rfl⟩
    | _=>injection h
   revert hc;refine b7 λ v0 hd zq2=> ?_;subst zq2;refine wpAny_storeName_cell ok.kind hx ha ⟨ob,e2,hd⟩ λ h' ⟨o',UQ,hd'⟩ hs=> ?_;have hm:=bU fr (eI hax e0);have D:=X.N _ hm;refine jL X.F.ns λ oL es ep hL rest=> ?_;refine q _ ⟨_,fr,m,X.upd' (h':=h') (tk:=s.toks) (k:=k) (o':=o') (ao:= .cel v) ⟨⟨oL,es,ep,(hs.2 _ (Ne.symm D.2.1)).trans hL,rest⟩,λ b ob' e=>(hs.2 b λ z=> ?_).trans (X.F.keep b ob' e),X.F.above⟩ (λ p hp=> ?_) ⟨u,hd',c⟩⟩
   ·have:=D.2.2;rw[←z,e]at this;contradiction
   ·rcases bV.mp hp with p1 | p1
    ·rcases rN p1 with⟨a',Va,rfl⟩ | ⟨j,hj,h1,h2⟩
     ·rw[hax]at Va
      obtain rfl:=bQ Va;exact⟨UQ,D.2⟩
     ·have P:=X.N _ (bU fr (eI h1 h2))
      exact⟨(hs.2 _ λ(z:p.1=a)=>hj (kJ (cC.mp X.nd).1 h1 (by rw[z];exact hax))).trans P.1,P.2⟩
    ·have P:=X.N p (cu _ p1)
     exact⟨(hs.2 _ λ(z:p.1=a)=>(cC.mp X.nd).2.2 a (dH hax) p.1 (gN p1) z.symm).trans P.1,P.2⟩
  | _=>injection h
theorem yR(ok:bc w mg mb bud C)(fc:FC w F C):∀{ns:List ab} {gs:List (az->Sem Unit)} {xs:List AV} {vs:Lv} {σ:AS} {s:aw},
  aW (λ x (g:az->Sem Unit)=>∀v (Q:Unit->aw->Prop) s,aC (ag pw w) C.A (storeName C.env x v) Q E s->aC (ag pw w) C.A (g v) Q E s) ns gs->jv F ns xs σ=W6 σ'->bk ads xs vs->bK C ads σ s->(∀s',bK C ads σ' s'->Q () s')->
  aC (ag pw w) C.A (assignInOrder gs vs) Q E s:=by
 intro ns gs xs vs σ s hg;induction hg generalizing xs vs σ s with
 | nil=>
  intro h hc r q;induction xs with
  | nil=>(injection h with zq;subst zq);rw[show vs= [] from hc.inv];exact assignInOrder_nil (q _ r)
  | cons _ _=>contradiction
 | @cons x _ ns _ g _ ih=>
  intro h hc r q;induction xs with
  | nil=>contradiction
  | cons v xs=>
   refine dY hc.inv_cons λ u us zq2 c cs=> ?_;subst zq2;refine aj (bO.mp (show (nQ F x v σ).bind (λ σ=>jv F ns xs σ)=W6 σ' from h)) λ SN h1 h2=> ?_
   exact assignInOrder_cons (g _ _ _ (yQ ok fc h1 c r λ s1 r1=>ih h2 cs r1 q))
theorem s7:∀{l:List α} {m:List β},aW r l m->aW r l.reverse m.reverse:=by
 intro l m h;induction h with
 | nil=>exact .nil
 | cons x _ ih=>
  rw[List.reverse_cons,List.reverse_cons];exact ih.append (.cons x .nil)
theorem I7:∀{ts:List Expr} {ns:List ab},jU ts=W6 ns->
  aW (λ x (g:az->Sem Unit)=>∀v (Q:Unit->aw->Prop) s,aC (ag pw w) C.A (storeName env x v) Q E s->aC (ag pw w) C.A (g v) Q E s) ns ((assignEach ts env).map (·.2))/\(assignEach ts env).length=ns.length/\(assignEach ts env).findIdx? (·.1)=W7:=by
 intro ts;induction ts with
 | nil=>
  intro ns h
  (injection h with zq;subst zq);exact⟨.nil,rfl,rfl⟩
 | cons t ts ih=>
  intro ns h;refine aj (bO.mp (show (((g' t).map (·.1)).bind λ y=>(jU ts).map (y:: ·))=W6 ns from h)) λ x hx h=> ?_
  refine aj (ez.mp h) λ l hl zq2=> ?_;subst zq2;refine aj (ez.mp hx) λ y hy zq2=> ?_;subst zq2;obtain rfl:=nY hy;refine cE (ih hl) λ h1 h2 h3=> ?_;refine⟨.cons (λ v Q s h=>assign_Name h) h1,by show (assignEach ts env).length+1=_;rw[h2];rfl, ?_⟩
  show List.findIdx? _ ((W9,_)::assignEach ts env)=W7;rw[List.findIdx?_cons,h3];rfl
theorem yS:∀(ns:List ab),
  aW (λ x (g:az->Sem Unit)=>∀v (Q:Unit->aw->Prop) s,aC (ag pw w) C.A (storeName env x v) Q E s->aC (ag pw w) C.A (g v) Q E s) ns (ns.map λ n=>bindName env n)
 | []=> .nil
 | _::ns=> .cons (λ _ _ _ h=>wpAny_bindName h) (yS ns)
theorem I8(hf:∀t y,f t=W6 y->(g' t).map (·.1)=W6 y):∀{ts:List Expr} {ns:List ab},jU ts=W6 ns->(ts.filterMap f).length=ts.length->ts.filterMap f=ns:=by
 intro ts;induction ts with
 | nil=>intro ns h _;exact bQ h
 | cons t ts ih=>
  intro ns h hl;refine aj (bO.mp (show (((g' t).map (·.1)).bind λ y=>(jU ts).map (y:: ·))=W6 ns from h)) λ x hx h=> ?_
  refine aj (ez.mp h) λ l hl2 zq2=> ?_;subst zq2;refine cL (o:=f t) (λ q=> ?on) λ y q=> ?os
  case on=>
   rw[List.filterMap_cons_none q]at hl;have:=List.length_filterMap_le f ts;rw[hl,df]at this;exact absurd ‹_› (gR _)
  case os=>
   rw[List.filterMap_cons_some q]at hl ⊢
   have:=hf t y q;rw[hx]at this;injection this with zq;subst zq
   rw[ih hl2 (ng hl)]
theorem I9(hn:ads.Nodup)(hl:∀k∈κ,k<ads.length)(hk:k ∉ κ)(ha:ads[k]? =W6 a):a ∉ bz ads κ:=λ q=>by
 refine aj (iQ hl q) λ j hj e=> ?_;exact hk (kJ hn ha e ▸ hj)
theorem I_{b:List cD}{A:eS}{Q:AF->AS->Prop}{I:It}(ok:bc w mg mb bud C)(fc:FC w F C)(hc:C.comp=W9)(S8:F.calm=W8)(hx:F.scope.names.lookup x=W6 .local)
  (ih:∀{C ads σ Q},bc w mg mb bud C->FC w F C->C.comp=W9->aL Γ F n b σ Q R->WS w C ads σ (dM b C.env) Q R)
  (hI:nJ a σ=W6 I) (hsz:I.n<=1048576) (h0:∃x,pB F.ini a σ (A.st x) (A.ok 0 x))
  (hs:∀i y,i<I.n->A.ok i y->aL Γ F n b ⟨dU x (I.item i) (A.st y).loc,(A.st y).objs⟩ (λ f SZ=>match f with
        | .next=>∃z,fgt F.ini SZ (A.st z) (A.ok (i+1) z)
        | .cont=>∃z,fgt F.ini SZ (A.st z) (A.ok (i+1) z)
        | .brk=>Q .next SZ
        | .ret v=>Q (.ret v) SZ) R) (he:∀y,A.ok I.n y->Q .next (A.st y))
  (ha:aU ads a u) (r:bK C ads σ s):
  aC (ag pw w) C.A (pyIter u) (λ it SP=>cf (ag pw w) C.A (.forLoop (.Name x px) it b [] C.env) (λ r s'=>match r with | .ok f=>iV C Q f s' | .error e=>i_ (ag pw w) C.A C.env (dD C R) e s') SP) (dD C R) s:=by
 revert r;refine dk λ os fr m X=> ?_;refine aI (Im hI) λ hI1 hflat=> ?_;refine Il (fc.calm S8) hI1 hsz ha X λ o G P St U7=> ?_;revert h0;refine dw λ z h0=> ?_;unfold pB at h0;rw[fc.ini]at h0
 generalize hκ:gc C.ini.length (pA σ.loc (A.st z).loc) σ.objs=κ at h0
 have hd:=cC.mp X.nd;refine aI (bA h0) λ hkept _=> ?_;have TQ:∀k∈κ,k<ads.length:=by
  refine aI (bA h0) λ _ h=> ?_;refine cL (o:=iu κ σ.objs) (λ q=> ?on) λ objs' q=> ?os
  case on=>rw[q]at h;exact h.elim
  case os=>exact(rY X.objs X.len q).1
 have X1:=X.junk o s.toks;refine aj (X1.fgt h0) λ os' X2 h1=> ?_;refine aI (bA h1) λ V7 TG=> ?_;have UV:∀b ob,s.heap.get? b=W6 ob->b≠s.heap.objs.size:=λ b ob hb e=>by subst e;exact gR _ (ed hb)
 have hGm:∀p∈G,∃k,a= .ob k/\ads[k]? =W6 p.1/\os[k]? =W6 p.2:=λ p hp=>(U7.fixed p hp).2;have Vo:∀p∈G,p.1 ∉ bz ads κ/\p.1∈ads/\s.heap.get? p.1=W6 p.2/\p.1≠C.L/\C.g.get? p.1=W7:=λ p hp=>by
  refine cO (hGm p hp) λ k e h2 h3=> ?_;have hN:=X.N _ (bU fr (eI h2 h3));refine⟨I9 hd.1 TQ (λ q=> ?_) h2,dH h2,hN⟩;subst e;unfold w' at V7;have:κ.any (aO k)=W8:=m8.mpr ⟨k,q,jl k⟩;simp only at V7;rw[this]at V7;contradiction
 refine Ib (J:=λ i τ=>∃y,τ=A.st y/\A.ok i y) (Nx:=λ i SZ=>∃y,fgt F.ini SZ (A.st y) (A.ok i y)) (G:=G) (oI:=o) ok hc (by rw[←fc.scope];exact hx) U7.wk (λ p hp=>(U7.fixed p hp).1)
  (λ i v hv ads'=>hflat i _ _ v (U7.item i v hv ads (cN _))) ?_ ?_ ?_ X2 ⟨z,rfl,TG⟩ U7.st ?_ ?_
 ·rintro i τ hi ⟨y,rfl,hy⟩ E ads'
  exact ih (C:=C.plus E) (yn ok) (H_ fc) hc (hs i y hi hy)
 ·rintro j SZ ⟨y,hy⟩ E ads' s' r'
  unfold fgt at hy;rw[fc.ini]at hy;refine aj (bK.fgt (C:=C.plus E) r' hy) λ SU S5 V8=> ?_;exact⟨SU,_,S5,y,rfl,V8⟩
 ·rintro τ ⟨y,rfl,hy⟩
  exact he y hy
 ·intro p hp
  rcases bR.mp hp with rfl | hp
  ·refine⟨fx _ U7.alive, ?_, ?_⟩
   ·refine jL X.F.ns λ oL _ _ hL _=> ?_
    exact λ e=>UV _ _ hL e.symm
   ·cases q:C.g.get? s.heap.objs.size with
    | none=>rfl
    | some ob=>exact(UV _ _ (X.F.keep _ _ q) rfl).elim
  ·refine iH (Vo p hp) λ _ _ h3 h4=> ?_
   exact⟨dt _ h3,h4⟩
 ·have inHeap:∀b,b∈ads++fr.map (·.1)->b≠s.heap.objs.size:=λ b hb=>by
   rw[←X.keys]at hb;refine aj (cZ.mp hb) λ p hp zq2=> ?_;subst zq2;exact UV _ _ (X.N p hp).1
  have sub:∀b,b∈bz ads κ->b∈ads:=λ b hb=>let ⟨_,_,e⟩:=iQ TQ hb;dH e
  refine cC.mpr ⟨X2.nd, ?_,λ b h1 c h2 e=> ?_⟩
  ·rw[eW]
   refine ku.mpr ⟨λ q=> ?_, ?_⟩
   ·refine aj (cZ.mp q) λ p hp e=> ?_
    refine iH (Vo p hp) λ _ _ h3 _=> ?_;exact UV _ _ h3 e
   ·have:=U7.one
    match G,this with
    | [],_=>simp
    | [_],_=>simp
    | _::_::_,h=>simp at h
  ·subst e
   rw[eW]at h2;rcases bR.mp h2 with e | h2
   ·refine inHeap b ?_ e
    rcases bV.mp h1 with q | q
    ·exact bU _ (sub b q)
    ·exact cu _ q
   ·refine aj (cZ.mp h2) λ p hp zq2=> ?_
    subst zq2;refine cE (Vo p hp) λ h3 h4 _=> ?_;rcases bV.mp h1 with q | q
    ·exact h3 q
    ·exact hd.2.2 p.1 h4 p.1 q rfl
theorem I'{a b:Nat}{c:Bool}(h: ¬ ((a !=b || c)=W8)):a=b:=by
 by_cases e:a=b
 ·exact e
 ·exact(h (by rw[Bool.or_eq_true];exact .inl (bne_iff_ne.mpr e))).elim
theorem Ja{ts:List Expr}{k:Nat}{tp:Pos}{e:Expr}{sw:Bool}{ns:List ab}(ok:bc w mg mb bud C)(fc:FC w F C)(h:nR F.scope ts e=W6 sw)(hn:jU ts=W6 ns):swappedStores [.Tuple ts k tp] e C.env=pure (match (generalizing:=false) sw with
  | true=>W6 ns
  | false=>W7):=by
 have e1:(C.env.blockKind !=ScopeKind.function)=W9:=by rw[yP ok.kind];rfl
 rw[fc.scope]at h;cases e with
 | Tuple vs k2 p2=>
  delta nR at h;rw[show xA (.Tuple vs k2 p2)=W6 vs from rfl]at h
  dsimp only at h
  split at h
  ·rename_i c1;(injection h with zq;subst zq);exact if_pos (by rw[e1,Bool.or_false];exact c1)
  ·rename_i c1
   refine(if_neg (by rw[e1,Bool.or_false];exact c1)).trans ?_
   split at h
   ·rename_i c2;(injection h with zq;subst zq);exact if_pos c2
   ·rename_i c2
    refine(if_neg c2).trans ?_
    split at h
    ·rename_i c3;(injection h with zq;subst zq);exact if_pos c3
    ·rename_i c3
     refine(if_neg c3).trans ?_
     split at h
     ·rename_i c4;(injection h with zq;subst zq);exact if_pos c4
     ·rename_i c4
      refine(if_neg c4).trans ?_
      split at h
      ·contradiction
      ·rename_i c5
       injection h with zq;subst zq
       refine(if_neg c5).trans ?_;show pure (W6 _)=pure (W6 ns);refine congrArg (λ l:List ab=>(pure (W6 l):Sem (Option (List ab)))) (I8 (λ t y q=> ?_) hn (I' c3));cases t with
       | Name id p=>
        by_cases c6:((List.lookup id C.env.scope.names==W6 NameKind.local && p.line== (Option.map (λ x:Expr=>x.pos.line) ts.head?).getD 0)=W8)
        ·have q:= (if_pos c6).symm.trans q
         exact q
        ·have q:= (if_neg c6).symm.trans q
         contradiction
       | _=>contradiction
 | _=>(injection h with zq;subst zq);rfl
end
end
section
open PySem.Calls
section
variable{w:aQ}{mg mb:Tm}{C:Cx}{ads:Ld}{σ:AS}{bud:Nat}{F:Cf}{R:Tn}{Γ:ak->Option aH}
theorem yT(h:ai M A x (λ _ _=>False) E s):ai M A (raiseStmt env (W6 x) W7) Q E s:=by
 unfold raiseStmt;exact aA (aK h (λ _ _ f=>f.elim) λ _ _ x=>x)
theorem Jb(h:ai M A (aZ x env) (λ _ _=>False) E s):ai M A (exec (.Raise (W6 x) W7 pos) env) Q E s:=by
 rw[arm_exec_Raise]
 first
  | exact b9 (yT (aA (aK h (λ v s₁ h₁=>h₁.elim) λ _ _ x=>x)))
  | (simp only[evalOpt,Option.map];exact b9 (yT (aA (aK h (λ v s₁ h₁=>h₁.elim) λ _ _ x=>x))))
theorem yU(h:xu o=W6 d):o= .exn d:=
 cv (dn h) λ hc h=>AO.exn.elim (motive:=λ o=>∀hc:o.ctorIdx=11,(AO.exn.elim o hc λ l=>W6 l:Option (Nat))=W6 d->o= .exn d) o hc (λ l _ h=>congrArg AO.exn (bQ h)) hc h
theorem Jc(h:xt o=W8):∃d,o= .exc d:=
 AO.exc.elim (motive:=λ o=>∃d,o= .exc d) o (dc h) λ d=>⟨d,rfl⟩
theorem Jd(ok:bc w mg mb bud C)(fc:FC w F C)(he:W w C ads σ (aZ x C.env) RV E0 R)(Vt:∀a SN,E0 a SN->pU F a SN R)(r:bK C ads σ s):
  ai (ag pw w) C.A (exec (.Raise (W6 x) W7 pos) C.env) (iV C Q) (dD C R) s:=by
 refine cF (b:=F.calm) (λ S8=> ?bt) λ S8=> ?bf
 case bt=>
  refine Fg (fc.calm S8) (he.here r λ SO SQ u a s₁ SW SR c₁ h₁=> ?_);induction a <;> first | exact aF (Vt _ _ h₁) | skip
  rename_i q;refine aj (bw (Vt _ _ h₁)) λ d hd h=> ?_;rw[S8]at h;have h:R q ⟨SQ.loc,SQ.objs.set q (Xm d)⟩:=h;refine aj (bO.mp hd) λ ao ho h2=> ?_;obtain rfl:=yU h2;revert c₁;refine b7 λ ax hax zq2=> ?_;subst zq2;revert SR;refine dk λ os fr m X=> ?_;refine cO (dZ X hax ho) λ o e0 zq2 hx=> ?_;obtain⟨dx,vs,U2,rfl,WX,WW,hf3⟩:=zq2;refine⟨ax,dx,vs,rfl,ok.K.keeps X.F.keep _ _ (lU w.params),hx,WW,SO,_,q,⟨_,fr,m,X.upd' (h':=s₁.heap) (tk:=s₁.toks) (k:=q) (ao:= .exc d) X.F ?_ ⟨dx,vs,U2,rfl,WX,hf3⟩⟩,⟨d, .inl ?_⟩,⟨ax,_,vs,hax,rfl,hx,rfl,by rw[WX];decide, .inl WW⟩,h⟩
  ·rw[yD e0];exact X.N
  ·rw[oR (dP.mp ho).1]
 case bf=>
  refine cL (o:=F.hid) (λ Vl=> ?on) λ kh Vl=> ?os
  case on=>
   refine Jb (he.here r λ SO SQ u a s₁ SW SR c₁ h₁=> ?_);induction a <;> first | exact Vt _ _ h₁ | skip
   rename_i q;refine aj (bw (Vt _ _ h₁)) λ d hd h=> ?_;rw[S8]at h;have h:= (bA (b:=quiet F SQ && nH F q) h).1;unfold nH at h;rw[Vl,Bool.and_false]at h;contradiction
  case os=>
   refine aj (fc.hid kh Vl) λ ha hi hh=> ?_;refine Fm (h:=ha) hh (he.here r λ SO SQ u a s₁ SW SR c₁ h₁=> ?_);induction a <;> first | exact aF (Vt _ _ h₁) | skip
   rename_i q;refine aj (bw (Vt _ _ h₁)) λ d hd h=> ?_;rw[S8]at h;refine aI (bA (b:=quiet F SQ && nH F q) h) λ hq h=> ?_;refine aI (bE.mp hq) λ Wm hq2=> ?_;refine aj (bO.mp hd) λ ao ho h2=> ?_;obtain rfl:=yU h2;revert c₁;refine b7 λ ax hax zq2=> ?_;subst zq2;revert SR;refine dk λ os fr m X=> ?_;refine cO (dZ X hax ho) λ o e0 zq2 hx=> ?_;obtain⟨dx,vs,U2,rfl,WX,WW,hf3⟩:=zq2;unfold quiet at Wm;rw[S8,Vl]at Wm;simp only at Wm;have hqh:aO kh q=W9:=by
    unfold nH at hq2;rw[Vl]at hq2
    simpa using hq2
   refine cL (o:=SQ.objs[kh]?) (λ hoh=> ?on) λ oh hoh=> ?os
   case on=>rw[hoh]at Wm;contradiction
   case os=>
    rw[hoh]at Wm;refine cv (Jc Wm) λ dh SY=> ?_;subst SY;have hah:=dB X.ini hi;refine cO (dZ X hah hoh) λ o2 f0 zq2 hhx=> ?_;obtain⟨dhx,us,hdhx,rfl,hu1,hu2⟩:=zq2;have TT:ha≠ax:=λ e=>by
     have:=kJ (cC.mp X.nd).1 hah (e ▸ hax);rw[this,jl]at hqh;contradiction
    have U8:(vs.setIfInBounds 2 (di ha)).size=6:=by simpa using WX
    have h11:(vs.setIfInBounds 2 (di ha))[1]? =W6 .none:=by rw[Array.getElem?_setIfInBounds_ne (by decide)];exact WW
    have X2:=X.upd (tk:=s₁.toks) (f:=i9 (·.setIfInBounds 2 (.ref ha))) (o':=gV dx (vs.setIfInBounds 2 (.ref ha))) (ao:= .exd d) hax e0 rfl rfl ⟨dx,_,U2,rfl,U8⟩;refine⟨ax,dx,vs,_,us,rfl,ok.K.keeps X.F.keep _ _ (lU w.params),hx,WW,by rw[WX];decide,TT,hhx,rfl,hu2,SO,_,q,⟨_,fr,m,X2⟩,⟨d, .inr ?_⟩,⟨ax,_,_,hax,rfl,mZ _ hx rfl,rfl,by rw[U8];decide, .inl h11⟩,h⟩
    rw[oR (dP.mp ho).1]
noncomputable def Cx.inH(C:Cx)(e:az)(i:Ld):Cx:={ C with hdl:=W6 e,ini:=i }
theorem s8(ok:bc w mg mb bud C):bc w mg mb bud (C.inH e i):=⟨⟨ok.K,ok.top,ok.stays,ok.dp,ok.un,ok.fro,ok.bm⟩,ok.kind,ok.own⟩
theorem Je(fc:FC w F C)(p:C.ini <+:ads)(hl:σ.objs.length=ads.length)(hk:ads[k]? =W6 a):FC w (inH F σ k) (C.inH (.ref a) ads):=by
 refine⟨fc.scope,λ j hj=> ?_,fc.qual,λ q hq=> ?_,hl,λ x j hj=> ?_,λ i b hi=>dB p (fc.pins i b hi),λ h=>nomatch h⟩
 ·(injection hj with zq;subst zq);exact⟨a,hk,rfl⟩
 ·refine ni (fc.code q hq) λ h1 P h2 h3=> ?_
  exact⟨h1,P,dB p h2,h3⟩
 ·refine aj (fc.cells x j hj) λ a' h1 h2=> ?_
  exact⟨a',h1,dB p h2⟩
theorem aE.inH{s:aw}{os:Lo}{fr:Tf}{m:Tm}(X:aE C ads σ s os fr m)(e:az):aE (C.inH e ads) ads σ s os fr m:=
 ⟨X.hgens,X.hdrawn,X.hos,X.F,X.loc,X.N,X.len,X.objs,X.nd,X.frs,cN _⟩
theorem aE.outH{s:aw}{os:Lo}{fr:Tf}{m:Tm}{e:az}{i:Ld}(X:aE (C.inH e i) ads σ s os fr m)(h:C.ini <+:i):aE C ads σ s os fr m:=
 ⟨X.hgens,X.hdrawn,X.hos,X.F,X.loc,X.N,X.len,X.objs,X.nd,X.frs,h.trans X.ini⟩
theorem Jf:∀{l:List (ab×AV)},(gp y l).lookup z=W6 v->z≠y/\l.lookup z=W6 v:=by
 intro l;induction l with
 | nil=>
  intro h;exact nomatch h
 | cons p r ih=>
  intro h;obtain⟨p1,p2⟩:=p;rw[GR]at h;rw[gO];refine cF (b:=p1==y) (λ e=> ?bt) λ e=> ?bf
  case bt=>
   simp only[e]at h;refine aI (ih h) λ h1 h2=> ?_;have:p1=y:=by simpa using e
   have:(z==p1)=W9:=beq_eq_false_iff_ne.mpr (by rw[this];exact h1)
   rw[this];exact⟨h1,h2⟩
  case bf=>
   simp only[e]at h;rw[gO]at h;cases e2:z==p1 with
   | true=>
    rw[e2]at h;have q1:z=p1:=by simpa using e2
    have q2:p1≠y:=beq_eq_false_iff_ne.mp e;exact⟨by rw[q1];exact q2,h⟩
   | false=>
    rw[e2]at h;exact ih h
theorem aE.gone{s:aw}{os:Lo}{fr:Tf}{m:Tm}(x:aE C ads σ s os fr m){tk:Nat}{h':bS}{y:ab}{v:Option az}
  (hn:h'.Ns C.L (λ z=>if z=y then v else m z)) (hs:bS.SameBut C.L s.heap h'):aE C ads ⟨gp y σ.loc,σ.objs⟩ { s with heap:=h',toks:=tk } os fr (λ z=>if z=y then v else m z):=by
 refine⟨x.hgens,x.hdrawn,x.hos,x.F.set hn hs,λ z u h=> ?_,x.N.set hs,x.len,x.objs,x.nd,x.frs,x.ini⟩;refine aI (Jf h) λ h1 h2=> ?_;refine aj (x.loc z u h2) λ u' h3 h4=> ?_;exact⟨u',by simp[h1,h3],h4⟩
theorem iR.same(X:∀a,ads[k]? =W6 a->a≠C.L)(h:iR C ads k e s fl)(hs:bS.SameBut C.L s.heap s'.heap):iR C ads k e s' fl:=by
 revert h;refine pa λ a oe vs ha zq4 Uh hd hsz T oT ts h1 VD Vn Vw VH hT Vm h3=> ?_;subst zq4;exact⟨a,oe,vs,ha,rfl,(hs.2 _ (X a ha)).trans Uh,hd,hsz,T,oT,ts,h1,VD,Vn,Vw,VH,(hs.2 _ Vw).trans hT,Vm,h3⟩
theorem aE.notL{s:aw}{os:Lo}{fr:Tf}{m:Tm}(X:aE C ads σ s os fr m){k:Nat}{a:ak}(h:ads[k]? =W6 a):a≠C.L:=by
 have lk:k<os.length:=by rw[X.len];exact(dP.mp h).1
 exact(X.N _ (bU fr (eI h (bP lk)))).2.1
theorem Jg{s:aw}{os:Lo}{fr:Tf}{m:Tm}{k:Nat}{e f:az}(X:aE C ads σ s os fr m)(hk:jO σ.objs k)(fl:iR C ads k e s f)(hR:R k σ):i_ (ag pw w) C.A C.env (dD C R) e s:=by
 unfold i_;refine rp (id fl) λ a oe vs ha zq4 Uh hd hsz T oT ts h1 rest=> ?_;subst zq4;refine aB (ig Uh hd h1 ?_);rw[if_neg (show ¬ ((di T==ja)=W8) from by simp)]
 refine lZ X fl C.env.frame λ VT W5 Wg=> ?_;exact⟨ads,σ,k,⟨os,fr,m,W5⟩,hk,Wg.rep (.inr rfl),hR⟩
theorem Jh{s:aw}{os:Lo}{fr:Tf}{m:Tm}{k:Nat}{e f:az}{what:String}{Q:Flow->aw->Prop}{E:Tv}(X:aE C ads σ s os fr m)(fl:iR C ads k e s f)
  (q:∀h',aE C ads σ { s with heap:=h' } os fr m->iR C ads k e { s with heap:=h' } (er C.fa)->E e { s with heap:=h' }):aC (ag pw w) C.A (PySem.passOn what e C.env:Sem Flow) Q E s:=by
 unfold PySem.passOn;refine rp (id fl) λ a oe vs ha zq4 Uh hd hsz T oT ts h1 rest=> ?_;subst zq4;refine aB (ig Uh hd h1 ?_);rw[if_neg (show ¬ ((di T==ja)=W8) from by simp)]
 exact aB (lZ X fl C.env.frame λ VT W5 Wg=>wpAny_throw (q _ W5 Wg))
theorem Ji(ok:bc w mg mb bud C)(fc:FC w F C)(hc:C.comp=W9)
  (hWF:F.scope.names.lookup ("WireFault" :ab)=W6 .globalImplicit) (hx:F.scope.names.lookup x=W6 .local)
  (hb:WS w C ads σ (dM b C.env) Q R1)
  (Uc:∀ads1 SN k a,C.ini <+:ads1->SN.objs.length=ads1.length->ads1[k]? =W6 a->R1 k SN->WS w (C.inH (.ref a) ads1) ads1 ⟨dU x (.ob k) SN.loc,SN.objs⟩ (dM (s0::bs) (C.inH (.ref a) ads1).env) (λ f SZ=>Q f ⟨gp x SZ.loc,SZ.objs⟩) (λ k2 SZ=>R k2 ⟨gp x SZ.loc,SZ.objs⟩)):
  WS w C ads σ (exec (.Try b [.ExceptHandler (W6 (.Name "WireFault" cp)) (W6 x) (s0::bs) hp] [] [] pos) C.env) Q R:=by
 intro s r;have kx:C.env.kindOf x=W6 .local:=by show C.scope.names.lookup x=_;rw[←fc.scope];exact hx
 have sk:=nX (C:=C) ok.kind;refine EO (aK (hb s r) (λ f s₁ h₁=> ?_) λ e s₁ h₁=> ?_)
 ·revert h₁
  refine gi λ SO SQ bf SR hf hq=> ?_;induction bf with
  | next=>obtain rfl:=hf;exact toG <| wpAny_execs_nil ⟨SO,SQ, .next,SR,rfl,hq⟩
  | cont=>obtain rfl:=hf;exact⟨SO,SQ, .cont,SR,rfl,hq⟩
  | brk=>obtain rfl:=hf;exact⟨SO,SQ, .brk,SR,rfl,hq⟩
  | ret v=>obtain⟨u,rfl,hu⟩:=hf;exact⟨SO,SQ, .ret v,SR,⟨u,rfl,hu⟩,hq⟩
 ·revert h₁
  refine gU λ ads1 SN k Tp hk ex hR=> ?_;revert Tp;refine dk λ os fr m X=> ?_;refine kD (id ex) λ a _ _ hka zq4 _=> ?_;subst zq4;refine nD ok hc X hk ex λ h2 tk2 os2 fr2 X2 fl2=> ?_;refine lZ X2 fl2 W7 λ h3 X3 fl3=> ?_;have hobj:∃dx vs,h3.get? a=W6 (gV dx vs):=by
   obtain⟨d,hd | hd⟩:=hk
   ·obtain⟨o,_,⟨dx,vs,_,rfl,_⟩,hg⟩:=dZ X3 hka hd;exact⟨dx,vs,hg⟩
   ·obtain⟨o,_,⟨dx,vs,_,rfl,_⟩,hg⟩:=dZ X3 hka hd;exact⟨dx,vs,hg⟩
  revert hobj;refine jq λ dx vs hobj=> ?_;refine EN (EL ?_) (by intro q;contradiction)
  refine toG <| sD (ads:=ads1) ok (v:= .gl (.ref 71)) (by kernel_rfl) X3.F ok.kind (by show C.scope.names.lookup _=_;rw[←fc.scope];exact hWF) rfl rfl (by kernel_rfl) λ u hu=> ?_
  obtain rfl:=hu;refine toG <| Fj (ok.K.keeps X3.F.keep _ _ (lU w.params)) hobj ?_
  simp only[if_true];refine EM ?_;have hl1:SN.objs.length=ads1.length:=by rw[X.objs.len,X.len]
  refine lZ (C:=C.inH (.ref a) ads1) (X3.inH (.ref a)) fl3 W7 λ h4 X4 fl4=> ?_;refine rh kx X4.F.ns (λ h5 hn5 hs5=> ?_) sk;have X5:=X4.store (tk:=tk2+1) (y:=x) (av:= .ob k) hn5 hs5 ⟨a,hka,rfl⟩;refine aK (Uc ads1 SN k a X.ini hl1 hka hR _ ⟨_,_,_,X5⟩) (λ f s6 h6=> ?_) λ y s6 h6=> ?_
  ·revert h6
   refine gi λ W3 σ6 bf Tp hf hq=> ?_;revert Tp;refine dk λ os6 fr6 m6 X6=> ?_;refine wpAny_nameGoes_keeps (M:=ag pw w) (A:=C.A) kx X6.F.ns sk λ h7 v hn7 hs7=> ?_;have X7:= (X6.outH X.ini).gone (tk:=s6.toks+1) hn7 hs7;exact⟨W3,_,bf,⟨_,_,_,X7⟩,hf,hq⟩
  ·revert h6
   refine gU λ W3 σ6 k6 Tp hk6 ex6 hR6=> ?_;revert Tp;refine dk λ os6 fr6 m6 X6=> ?_;refine nD (C:=C.inH (.ref a) ads1) (s8 ok) hc X6 hk6 ex6 λ h7 tk7 os7 fr7 X7 fl7=> ?_;refine wpAny_nameGoes_keeps (M:=ag pw w) (A:= (C.inH (.ref a) ads1).A) kx X7.F.ns sk λ h8 v hn8 hs8=> ?_;have X8:=X7.gone (tk:=tk7+1) hn8 hs8;have fl8:=fl7.same (s':=⟨h8,s6.gens,s6.drawn,tk7+1,s6.os⟩) (λ a ha=>X7.notL ha) hs8;refine Jh (C:=C.inH (.ref a) ads1) X8 fl8 λ h9 X9 fl9=> ?_;unfold eA;refine nD (C:=C.inH (.ref a) ads1) (s8 ok) hc X9 hk6 (fl9.rep (.inr rfl)) λ h10 tk10 os10 fr10 X10 fl10=> ?_;exact Jg (X10.outH X.ini) hk6 fl10 hR6
end
end
section
open PySem.Calls
section
variable{w:aQ}{mg mb:Tm}{C:Cx}{ads:Ld}{σ:AS}{bud:Nat}{F:Cf}{R:Tn}{Γ:ak->Option aH}
theorem Jj(ih:∀j,jY w mg mb bud Γ j)(ok:bc w mg mb bud C)(fc:FC w F C)(hy:F.scope.names.lookup y=W6 .local)
  (hl:(py.line==pos.line)=W8) (TY:(!(sc.names.any λ y'=>y'.1==y && (y'.2== .local || y'.2== .cell)))=W8)
  (h:bh Γ F n (.ListComp elt gens sc pos) σ (λ a SN=>Qf .next ⟨dU y a SN.loc,SN.objs⟩) R):WS w C ads σ (exec (.Assign [.Name y py] (.ListComp elt gens sc pos) spos) C.env) Qf R:=by
 intro s r;cases n with
 | zero=>exact h.elim
 | succ n=>
 have h:aJ (pY gens) λ g=>aG (F.calm && (mf g.2 && (nM sc && gF sc g.1))) (aJ (gn F.cells sc.names []) λ cl=>bh Γ F n g.2 σ (λ a SN=>sW Γ F n elt g.1 sc cl (key pos) a SN (λ a SN=>Qf .next ⟨dU y a SN.loc,SN.objs⟩)) R):=h;revert h;refine cj bw λ g hg h=> ?_;revert h;refine fT fG λ hc hs h=> ?_;revert hs;refine cK bE.mp λ hs h2=> ?_;revert h2;refine cK bE.mp λ h2 h3=> ?_;refine aj (bw h) λ clF VF hE=> ?_;refine cv (yN hg) λ px SY=> ?_;subst SY;refine aj (sP (l2:=C.cells) (R:=λ k a=>C.ini[k]? =W6 a) fc.cells VF .nil) λ cl hcl2 UP=> ?_;have hk:sc.kind= .function:=by simpa using(bE.mp h2).1
 have hn:∀x∈sc.names,x.2= .local->sc.names.lookup x.1=W6 .local:=λ y hy e=>by
  have:=i8.mp (bE.mp h2).2 y hy;rw[e]at this;exact mu this
 have ky:C.scope.names.lookup y=W6 .local:=by rw[←fc.scope];exact hy
 have WB:swapsWith (.ListComp elt [⟨.Name g.1 px,g.2, [],0⟩] sc pos) (W6 (.Name y py)) spos.line C.env=pure W8:=by
  have e1:(C.env.blockKind==ScopeKind.function)=W8:=by rw[yP ok.kind];rfl
  have e2:(C.env.kindOf y==W6 NameKind.local)=W8:=by show (C.scope.names.lookup y==_)=W8;rw[ky];rfl
  show (pure (C.env.blockKind==ScopeKind.function && C.env.kindOf y==W6 NameKind.local && py.line==pos.line && !(sc.names.any λ y'=>y'.1==y && (y'.2== .local || y'.2== .cell))):Sem Bool)=_
  rw[e1,e2,hl,TY];rfl
 rw[exec_Assign_Name_used _ _ _ _ WB];refine b9 (aA ?_);show ai _ _ (do let _ ←comprehension (.ListComp elt [⟨.Name g.1 px,g.2, [],0⟩] sc pos) sc C.env _ (newList []) W9 (aZ g.2 C.env) (W6 (assign (.Name y py) C.env))) _ _ s
 refine aA (aK (wG (use:=W6 (assign (.Name y py) C.env)) (Q:=λ _ s'=>iV C Qf .next s') rfl (sY hs) (sO hcl2) hk hn ?_) (λ _ s' hq=>aT (aT hq)) λ _ _ e=>e);refine((ih n).E ok fc hE).here r λ SO SQ u a s₁ SW SR c₁ h₁=> ?_;revert SR;refine dk λ os fr m X=> ?_;exact yM (use:=W6 (assign (.Name y py) C.env)) (E:=dD C R) (Qv:=λ _ s'=>iV C Qf .next s') (itE:=g.2) (px:=px) (pos:=pos) ok fc (λ j _=>ih j) hc h2 h3 UP X c₁ h₁ λ ads' objs vs D L s' ao hp e hr q=>IY ok ky e hr q
theorem yV(h:nF a=W6 k):a= .ob k:=by
 cases a <;> first | cases h | skip
 rfl
theorem yW(h:p6 o=W6 xs):o= .tup xs:=
 cv (dn h) λ hc h=>AO.tup.elim (motive:=λ o=>∀hc:o.ctorIdx=5,(AO.tup.elim o hc λ l=>W6 l:Option (List AV))=W6 xs->o= .tup xs) o hc (λ l _ h=>congrArg Xj (bQ h)) hc h
def Jk(F:Cf)(sw:Bool)(ns:List ab)(xs:List AV)(SN:AS)(P:AS->Prop):Prop:=match sw with
 | false=>aJ (jv F ns xs SN) P
 | true=>aJ (jv F ns.reverse xs.reverse SN) P
theorem Jl{e:Expr}{ts:List Expr}{ctx:Nat}{tp spos:Pos}{ns:List ab}{sw:Bool}{Qf:AF->AS->Prop}{Q:Ta}(ok:bc w mg mb bud C)(fc:FC w F C)(hp:ix e=W8)(S8:F.calm=W8)(TY:jU ts=W6 ns)(WB:nR F.scope ts e=W6 sw)
  (he:W w C ads σ (aZ e C.env) RV Q R) (hq:∀a SN,Q a SN->aJ (nF a) λ k=>aJ ((SN.objs[k]?).bind p6) λ xs=>aG (aO xs.length ns.length && Nat.ble ns.length 1000) (Jk F sw ns xs SN (Qf .next))):WS w C ads σ (exec (.Assign [.Tuple ts ctx tp] e spos) C.env) Qf R:=by
 intro s r;have hA:C.A.handled=W7:=fc.calm S8;have V4:swapsWithSole [.Tuple ts ctx tp] e spos.line C.env=pure W9:= (show swapsWithSole [.Tuple ts ctx tp] e spos.line C.env=swapsWith e (W6 (.Tuple ts ctx tp)) spos.line C.env from rfl).trans (nZ hp)
 have hs2:=Ja (k:=ctx) (tp:=tp) ok fc WB TY;refine cE (I7 (C:=C) (w:=w) (E:=dD C R) (env:=C.env) TY) λ n1 n2 n3=> ?_;induction sw with
 | false=>
  refine EE (he.here r λ SO SQ u a s₁ SW SR c₁ h₁=> ?_) V4 hs2;refine aj (bw (hq _ _ h₁)) λ k hk h=> ?_;obtain rfl:=yV hk;revert h;refine cj bw λ xs hxs h=> ?_;revert h;refine cK bA λ hlen h=> ?_;refine aj (bO.mp hxs) λ ao hao h2=> ?_;obtain rfl:=yW h2;revert c₁;refine b7 λ ax hax zq2=> ?_;subst zq2;revert SR;refine dk λ os fr m X=> ?_;refine cO (dZ X hax hao) λ o e0 zq2 hg=> ?_;revert zq2;refine c7 λ vs n zq2 hc=> ?_;subst zq2;refine aj (bw (show aJ _ (Qf .next) from h)) λ SZ Ug hqf=> ?_
  have hl:ns.length=vs.size:=by
   have h1:=dc (bE.mp hlen).1;rw[←h1,hc.len];simp
  refine toG <| assign_Tuple_tuple hA ⟨_,hg,rfl,n,rfl⟩ (by rw[n2,hl]) n3 λ h' he'=> ?_
  have X':=X.off (h':=h') (tk:=s₁.toks) λ b o hb _=>he' b o (fj (ed hb)) hb;exact yR ok fc n1 Ug hc ⟨_,_,_,X'⟩ λ s' r'=>⟨_,_, .next,r',rfl,hqf⟩
 | true=>
  refine EF (he.here r λ SO SQ u a s₁ SW SR c₁ h₁=> ?_) V4 hs2;refine aj (bw (hq _ _ h₁)) λ k hk h=> ?_;obtain rfl:=yV hk;revert h;refine cj bw λ xs hxs h=> ?_;revert h;refine cK bA λ hlen h=> ?_;refine aj (bO.mp hxs) λ ao hao h2=> ?_;obtain rfl:=yW h2;revert c₁;refine b7 λ ax hax zq2=> ?_;subst zq2;revert SR;refine dk λ os fr m X=> ?_;refine cO (dZ X hax hao) λ o e0 zq2 hg=> ?_;revert zq2;refine c7 λ vs n zq2 hc=> ?_;subst zq2;refine aj (bw (show aJ _ (Qf .next) from h)) λ SZ Ug hqf=> ?_
  have hl:ns.length=vs.size:=by
   have h1:=dc (bE.mp hlen).1;rw[←h1,hc.len];simp
  rw[hl];refine toG <| unpackItems_tuple hA ⟨_,hg,rfl,n,rfl⟩ λ h' he'=>toG ?_
  have X':=X.off (h':=h') (tk:=s₁.toks) λ b o hb _=>he' b o (fj (ed hb)) hb;exact yR ok fc (yS ns.reverse) Ug (s7 hc) ⟨_,_,_,X'⟩ λ s' r'=>⟨_,_, .next,r',rfl,hqf⟩
theorem Jm(h:sy hs=W6 x):∃cp hp s b,hs= [.ExceptHandler (W6 (.Name x.1 cp)) (W6 x.2.1) (s::b) hp]/\x.2.2=s::b:=by
 cases hs with
 | nil=>contradiction
 | cons y r=>
  cases r with
  | cons _ _=>contradiction
  | nil=>
   obtain⟨t,n,b,hp⟩:=y;obtain⟨t,rfl,h⟩:=bO.mp (show (t.bind λ t=>n.bind λ x=>(g' t).bind λ c=>match b with
    | []=>W7
    | s::r=>W6 (c.1,x,s::r))=W6 x from h)
   refine aj (bO.mp h) λ n SY h=> ?_;subst SY;refine aj (bO.mp h) λ c h1 h=> ?_;cases b with
   | nil=>contradiction
   | cons s b=>
    injection h with zq;subst zq
    rw[nY h1];exact⟨_,_,_,_,rfl,rfl⟩
structure Jn (w:aQ) (mg mb:Tm) (bud:Nat) (Γ:ak->Option aH) (n:Nat):Prop where
 S:∀{C F ads σ st Q R},bc w mg mb bud C->FC w F C->C.comp=W9->mm Γ F n st σ Q R->WS w C ads σ (exec st C.env) Q R
 B:∀{C F ads σ b Q R},bc w mg mb bud C->FC w F C->C.comp=W9->aL Γ F n b σ Q R->WS w C ads σ (dM b C.env) Q R
theorem Jo(h:p7 e=W6 sc):∃elt gens p,e= .ListComp elt gens sc p:=
 cv (dn h) λ hc h=>Expr.ListComp.elim (motive_1:=λ e=>∀hc:e.ctorIdx=8,(Expr.ListComp.elim e hc λ _ _ s _=>W6 s:Option et)=W6 sc->∃elt gens p,e= .ListComp elt gens sc p) e hc (λ a b s p _ h=>⟨a,b,p,congrArg (λ s=>Expr.ListComp a b s p) (bQ h)⟩) hc h
theorem Jp(gE:∀n,jY w mg mb bud Γ n)(ok:bc w mg mb bud C)(fc:FC w F C)(h:xB Γ F n t e spos.line σ (λ SN=>Qf .next SN) R):WS w C ads σ (exec (.Assign [t] e spos) C.env) Qf R:=by
 intro s r;cases t <;> first | exact aF h | skip
 case Name x px=>
  have h:(match p7 e with
   | none=>aG (ix e) (bh Γ F n e σ (λ a SN=>aJ (nQ F x a SN) (Qf .next)) R)
   | some sc=>aG (gF F.scope x && ((px.line==e.pos.line) && !(sc.names.any λ y=>y.1==x && (y.2== .local || y.2== .cell)))) (bh Γ F n e σ (λ a SN=>Qf .next ⟨dU x a SN.loc,SN.objs⟩) R)):=h
  refine cL (o:=p7 e) (λ hc=> ?on) λ sc hc=> ?os
  case on=>
   rw[hc]at h;revert h;refine cK bA λ hp h=> ?_;refine EB (((gE n).E ok fc h).here r λ SO SQ u a s₁ SW SR c₁ h₁=> ?_) (nZ hp);refine aj (bw h₁) λ SZ h2 h3=> ?_;exact toG <| yQ ok fc h2 c₁ SR λ s' r'=>⟨_,_, .next,r',rfl,h3⟩
  case os=>
   rw[hc]at h;revert h;refine fT fG λ h1 h2 h=> ?_;revert h2;refine cK bE.mp λ h2 h3=> ?_;refine nj (Jo hc) λ elt gens p Tp=> ?_;subst Tp;exact Jj gE ok fc (mu h1) h2 h3 h s r
 case Attribute o x pos'=>
  have h:aG (ix e) (bh Γ F n e σ (λ a SN=>bh Γ F n o SN (λ b SZ=>pP b x a SZ (Qf .next)) R) R):=h;revert h;refine cK bA λ hp h=> ?_;refine EC (((gE n).E ok fc h).here r λ SO SQ u a s₁ SW SR c₁ h₁=> ?_) (nZ hp);refine((gE n).E ok fc h₁).here SR λ SU S1 v b SP Tb S5 c₂ h₂=> ?_;refine(HG ok h₂ c₂ (c₁.mono Tb)).toG.here S5 λ TF UA _ _ s₃ T9 T8 _ S_=> ?_;exact⟨TF,UA, .next,T8,rfl,S_⟩
 case Subscript o i pos'=>
  have h:aG (ix e && !l7 i) (bh Γ F n e σ (λ a SN=>bh Γ F n o SN (λ b SZ=>bh Γ F n i SZ (λ j σ3=>sh b j a σ3 (Qf .next)) R) R) R):=h;revert h;refine fT fG λ hp _ h=> ?_;refine ED (((gE n).E ok fc h).here r λ SO SQ u a s₁ SW SR c₁ h₁=> ?_) (nZ hp);refine((gE n).E ok fc h₁).here SR λ SU S1 v b SP Tb S5 c₂ h₂=> ?_;refine((gE n).E ok fc h₂).here S5 λ TF UA v₃ b₃ s₃ T9 T8 c₃ S_=> ?_;refine(HT S_ (c₂.mono T9) c₃ (c₁.mono (Tb.trans T9))).toG.here T8 λ UU Vf _ _ TB p₄ VZ _ TM=> ?_;exact⟨UU,Vf, .next,VZ,rfl,TM⟩
 case Tuple ts ctx tp=>
  have h:aG (ix e && F.calm) (aJ (jU ts) λ ns=>aJ (nR F.scope ts e) λ sw=>bh Γ F n e σ (λ a SN=>aJ (nF a) λ k=>aJ ((SN.objs[k]?).bind p6) λ xs=>aG (aO xs.length ns.length && Nat.ble ns.length 1000)
   (match sw with
   | false=>aJ (jv F ns xs SN) (Qf .next)
   | true=>aJ (jv F ns.reverse xs.reverse SN) (Qf .next))) R):=h
  revert h;refine fT fG λ hp S8 h=> ?_;revert h;refine cj bw λ ns TY h=> ?_;revert h;refine cj bw λ sw WB h=> ?_;exact Jl ok fc hp S8 TY WB ((gE n).E ok fc h) (λ _ _ x=>x) s r
end
end
section
open PySem.Calls
section
variable{w:aQ}{mg mb:Tm}{C:Cx}{ads:Ld}{σ:AS}{bud:Nat}{F:Cf}{R:Tn}{Γ:ak->Option aH}
theorem Jq{b:List cD}{A:eS}{Q:AF->AS->Prop}(gE:∀n,jY w mg mb bud Γ n)(ok:bc w mg mb bud C)(fc:FC w F C)(hc:C.comp=W9)
  (ih:∀{ads σ Q},aL Γ F n b σ Q R->WS w C ads σ (dM b C.env) Q R) (h0:∃x,fgt F.ini σ (A.st x) (A.ok 0 x))
  (hs:∀x,A.ok 0 x->gG Γ F n t (A.st x) (λ c SN=>cond c (aL Γ F n b SN (λ f SZ=>match f with
      | .next=>∃y,fgt F.ini SZ (A.st y) (A.ok 0 y/\A.μ y<A.μ x)
      | .cont=>∃y,fgt F.ini SZ (A.st y) (A.ok 0 y/\A.μ y<A.μ x)
      | .brk=>Q .next SZ
      | .ret v=>Q (.ret v) SZ) R) (Q .next SN)) R):WS w C ads σ (exec (.While t b [] pos) C.env) Q R:=by
 intro s r;revert h0;refine dw λ x h0=> ?_;unfold fgt at h0;rw[fc.ini]at h0;refine aj (r.fgt h0) λ Tu UO UB=> ?_;refine wx (wD (λ k s=>∃ads x,bK C ads (A.st x) s/\A.ok 0 x/\A.μ x=k) ?_ _ ⟨Tu,x,UO,UB,rfl⟩)
 rintro k s ⟨ads,x,r,TG,rfl⟩
 refine aK (((gE n).T ok fc (hs x TG)).here r λ SO SQ a u s₁ SW SR c₁ h₁=>(?_:(λ b SP=>if b=W8 then _ else _) a s₁)) (λ _ _ y=>y) λ e s' h'=>passes ok hc h'
 subst c₁;induction a with
 | true=>
  rw[if_pos rfl];refine aK (ih h₁ s₁ SR) (λ f SP h₂=> ?_) λ e s' h'=>passes ok hc h';have back:∀SU S1,bK C SU S1 SP->(∃y,fgt F.ini S1 (A.st y) (A.ok 0 y/\A.μ y<A.μ x))->∃m,m<A.μ x/\∃ads x,bK C ads (A.st x) SP/\A.ok 0 x/\A.μ x=m:=λ SU S1 S5 ⟨y,hy⟩=>by
   unfold fgt at hy;rw[fc.ini]at hy;refine cO (S5.fgt hy) λ TF T8 WR WQ=> ?_;exact⟨_,WQ,TF,y,T8,WR,rfl⟩
  revert h₂;refine gi λ SU S1 b S5 hf hq=> ?_;induction b with
  | next=>obtain rfl:=hf;exact back _ _ S5 hq
  | cont=>obtain rfl:=hf;exact back _ _ S5 hq
  | brk=>obtain rfl:=hf;exact⟨SU,S1, .next,S5,rfl,hq⟩
  | ret v=>obtain⟨u,rfl,hu⟩:=hf;exact⟨SU,S1, .ret v,S5,⟨u,rfl,hu⟩,hq⟩
 | false=>
  rw[if_neg (by decide)]
  exact toG <| wpAny_execs_nil ⟨SO,SQ, .next,SR,rfl,h₁⟩
theorem Jr{b:List cD}{Q:AF->AS->Prop}(gE:∀n,jY w mg mb bud Γ n)(ok:bc w mg mb bud C)(fc:FC w F C)(hc:C.comp=W9)
  (ih:∀j,j<=n->∀{ads σ Q},aL Γ F j b σ Q R->WS w C ads σ (dM b C.env) Q R) (h:jV Γ F n u t b σ Q R):WS w C ads σ (exec (.While t b [] pos) C.env) Q R:=by
 intro s r;refine wx (wD (λ k s=>∃ads σ j,j<=n/\bK C ads σ s/\jV Γ F j k t b σ Q R) ?_ _ ⟨ads,σ,n,ba _,r,h⟩)
 rintro k s ⟨ads,σ,j,hj,r,h⟩
 induction j with
 | zero=>exact h.elim
 | succ j=>
 have h:gG Γ F j t σ (λ c SN=>cond c (match (generalizing:=false) k with
   | 0=>False
   | u+1=>aL Γ F j b SN (λ f SZ=>match f with
    | .next=>jV Γ F j u t b SZ Q R
    | .cont=>jV Γ F j u t b SZ Q R
    | .brk=>Q .next SZ
    | .ret v=>Q (.ret v) SZ) R) (Q .next SN)) R:=h
 refine aK (((gE j).T ok fc h).here r λ SO SQ a u s₁ SW SR c₁ h₁=>(?_:(λ b SP=>if b=W8 then _ else _) a s₁)) (λ _ _ y=>y) λ e s' h'=>passes ok hc h'
 subst c₁;induction a with
 | true=>
  rw[if_pos rfl];induction k with
  | zero=>exact h₁.elim
  | succ k=>
  refine aK (ih j (by exact f_ ‹_›) h₁ s₁ SR) (λ f SP h₂=> ?_) λ e s' h'=>passes ok hc h'
  revert h₂;refine gi λ SU S1 b S5 hf hq=> ?_;induction b with
  | next=>obtain rfl:=hf;exact⟨k,ic _,SU,S1,j,by exact f_ ‹_›,S5,hq⟩
  | cont=>obtain rfl:=hf;exact⟨k,ic _,SU,S1,j,by exact f_ ‹_›,S5,hq⟩
  | brk=>obtain rfl:=hf;exact⟨SU,S1, .next,S5,rfl,hq⟩
  | ret v=>obtain⟨u,rfl,hu⟩:=hf;exact⟨SU,S1, .ret v,S5,⟨u,rfl,hu⟩,hq⟩
 | false=>
  rw[if_neg (by decide)]
  exact toG <| wpAny_execs_nil ⟨SO,SQ, .next,SR,rfl,h₁⟩
theorem mv(G:aX w mg mb bud Γ):∀n,Jn w mg mb bud Γ n:=by
 have gE:∀n,jY w mg mb bud Γ n:=iW G;intro n;induction n using Nat.strongRecOn with
 | _ n Ww=>
 induction n with
 | zero=>exact⟨λ _ _ _ h=>h.elim,λ _ _ _ h=>h.elim⟩
 | succ n=>
  have ih:=Ww n (ic n)
  constructor
  ·intro C F ads σ st Q R ok fc hc h
   cases st <;> first | exact aF h | skip
   case Pass p=>exact λ s r=>toG <| wpAny_Pass ⟨ads,σ, .next,r,rfl,h⟩
   case Return v p=>
    intro s r;induction v with
    | none=>exact toG <| wpAny_Return_none ⟨ads,σ, .ret .non,r,⟨_,rfl,rfl⟩,h⟩
    | some e=>exact Ei (((gE n).E ok fc (show bh Γ F n e σ (λ a SN=>Q (.ret a) SN) R from h)).here r λ SO SQ u a s₁ SW SR c₁ h₁=>⟨SO,SQ, .ret a,SR,⟨u,rfl,c₁⟩,h₁⟩)
   case Expr e p=>
    intro s r;have h:aG (ix e) (bh Γ F n e σ (λ _ SN=>Q .next SN) R):=h;refine aI (bA h) λ hp h=> ?_;refine ET (((gE n).E ok fc h).here r λ SO SQ u a s₁ SW SR c₁ h₁=>⟨SO,SQ, .next,SR,rfl,h₁⟩) ?_ (nZ hp);unfold PySem.interactive;have:C.env.scope.kind= .function:=ok.kind;rw[this];rfl
   case Assign ts e p=>
    induction ts with
    | nil=>exact aF h
    | cons t ts=>
     induction ts with
     | nil=>exact Jp gE ok fc h
     | cons _ _=>exact aF h
   case If t b o p=>
    intro s r;have h:gG Γ F n t σ (λ c SN=>cond c (aL Γ F n b SN Q R) (aL Γ F n o SN Q R)) R:=h;refine Eh (((gE n).T ok fc h).here r λ SO SQ a u s₁ SW SR c₁ h₁=> ?_);subst c₁;induction a with
    | true=>exact ih.B ok fc hc h₁ s₁ SR
    | false=>exact ih.B ok fc hc h₁ s₁ SR
   case While t b o pos=>
    induction o with
    | cons _ _=>exact aF h
    | nil=>
     have h:(match F.an.ann (key pos) with
      | some A=>(∃x,fgt F.ini σ (A.st x) (A.ok 0 x))/\∀x,A.ok 0 x->gG Γ F n t (A.st x) (λ c SN=>cond c (aL Γ F n b SN (λ f SZ=>match f with
        | .next=>∃y,fgt F.ini SZ (A.st y) (A.ok 0 y/\A.μ y<A.μ x)
        | .cont=>∃y,fgt F.ini SZ (A.st y) (A.ok 0 y/\A.μ y<A.μ x)
        | .brk=>Q .next SZ
        | .ret v=>Q (.ret v) SZ) R) (Q .next SN)) R
      | none=>jV Γ F n (F.an.unr (key pos)) t b σ Q R):=h
     refine cL (o:=F.an.ann (key pos)) (λ hA=> ?on) λ A hA=> ?os
     case on=>rw[hA]at h;exact Jr gE ok fc hc (λ j hj {_ _ _} h=>(Ww j (Nat.lt_succ_of_le hj)).B ok fc hc h) h
     case os=>
      rw[hA]at h;exact Jq gE ok fc hc (λ h=>ih.B ok fc hc h) h.1 h.2
   case For t it b o pos=>
    induction o with
    | cons _ _=>exact aF h
    | nil=>
     have h:aJ (g' t) λ x=>match F.an.ann (key pos) with
      | some A=>aG (F.calm && (mf it && gF F.scope x.1)) (bh Γ F n it σ (λ a SN=>match nJ a SN with
       | some I=>I.n<=1048576/\(∃x,pB F.ini a SN (A.st x) (A.ok 0 x))/\(∀i y,i<I.n->A.ok i y->aL Γ F n b ⟨dU x.1 (I.item i) (A.st y).loc,(A.st y).objs⟩ (λ f SZ=>match f with
         | .next=>∃z,fgt F.ini SZ (A.st z) (A.ok (i+1) z)
         | .cont=>∃z,fgt F.ini SZ (A.st z) (A.ok (i+1) z)
         | .brk=>Q .next SZ
         | .ret v=>Q (.ret v) SZ) R)/\∀y,A.ok I.n y->Q .next (A.st y)
       | none=>False) R)
      | none=>False:=h
     refine aj (bw h) λ x hx h=> ?_;obtain rfl:=nY hx;refine cL (o:=F.an.ann (key pos)) (λ hA=> ?on) λ A hA=> ?os
     case on=>rw[hA]at h;exact h.elim
     case os=>
      rw[hA]at h;revert h;refine fT fG λ h1 h2 h=> ?_;revert h2;refine cK bE.mp λ h2 h3=> ?_;intro s r;refine Eg (((gE n).E ok fc h).here r λ SO SQ u a s₁ SW SR c₁ h₁=> ?_) (sY h2);refine cL (o:=nJ a SQ) (λ hI=> ?on) λ I hI=> ?os
      case on=>rw[hI]at h₁;exact h₁.elim
      case os=>
       rw[hI]at h₁;revert h₁;refine fq λ hsz h0 Ug he=> ?_;exact toG <| I_ ok fc hc h1 (mu h3) (λ ok fc hc h=>ih.B ok fc hc h) hI hsz h0 Ug he c₁ SR
   case Raise e c p=>
    induction e with
    | none=>exact aF h
    | some e=>
     induction c with
     | some _=>exact aF h
     | none=>exact λ s r=>Jd (E0:=λ a SN=>pU F a SN R) ok fc ((gE n).E ok fc (show bh Γ F n e σ (λ a SN=>pU F a SN R) R from h)) (λ _ _ x=>x) r
   case Try b hs o fin p=>
    induction o with
    | cons _ _=>exact aF h
    | nil=>
     induction fin with
     | cons _ _=>exact aF h
     | nil=>
      have h:aJ (sy hs) λ h=>aG (F.calm && (h.1== ("WireFault" :ab) && ((F.scope.names.lookup ("WireFault" :ab)==W6 .globalImplicit) && gF F.scope h.2.1)))
       (aL Γ F n b σ (λ f SN=>Q f SN) (λ k SN=>aL Γ (inH F SN k) n h.2.2 ⟨dU h.2.1 (.ob k) SN.loc,SN.objs⟩ (λ f SZ=>Q f ⟨gp h.2.1 SZ.loc,SZ.objs⟩) (λ k2 SZ=>R k2 ⟨gp h.2.1 SZ.loc,SZ.objs⟩))):=h
      revert h;refine cj bw λ x hx h=> ?_;obtain⟨x1,x2,x3⟩:=x;refine CD (Jm hx) λ cp hp s0 bs zq4 e3=> ?_;subst zq4;obtain rfl:x3=s0::bs:=e3;revert h;refine fT fG λ S8 h1 h=> ?_;revert h1;refine cK bE.mp λ h1 h2=> ?_;revert h2;refine cK bE.mp λ h2 h3=> ?_;obtain rfl:x1= ("WireFault" :ab):=iw h1;have hwf:F.scope.names.lookup ("WireFault" :ab)=W6 .globalImplicit:=by
       cases q:F.scope.names.lookup ("WireFault" :ab) with
       | none=>rw[q]at h2;contradiction
       | some k=>rw[q]at h2;induction k <;> first | rfl | contradiction
      exact Ji (R1:=λ k SN=>aL Γ (inH F SN k) n (s0::bs) ⟨dU x2 (.ob k) SN.loc,SN.objs⟩ (λ f SZ=>Q f ⟨gp x2 SZ.loc,SZ.objs⟩) (λ k2 SZ=>R k2 ⟨gp x2 SZ.loc,SZ.objs⟩)) ok fc hc hwf (mu h3) (ih.B ok fc hc h) λ ads1 SN k a p1 p2 p3 p4=>ih.B (s8 ok) (Je fc p1 p2 p3) hc p4
  ·intro C F ads σ b Q R ok fc hc h
   intro s r;induction b with
   | nil=>exact toG <| wpAny_execs_nil ⟨ads,σ, .next,r,rfl,h⟩
   | cons st rest=>
    have h:sx (F.an.cut (key (nS st)) σ) F.ini σ λ σ=>mm Γ F n st σ (λ f SN=>match f with
     | .next=>aL Γ F n rest SN Q R
     | f=>Q f SN) R:=h
    have go:∀ads σ,bK C ads σ s->(mm Γ F n st σ (λ f SN=>match f with
     | .next=>aL Γ F n rest SN Q R
     | f=>Q f SN) R)->ai (ag pw w) C.A (dM (st::rest) C.env) (iV C Q) (dD C R) s:=λ ads σ r h=>by
     refine wu (aK (ih.S ok fc hc h s r) (λ f s₁ h₁=> ?_) λ _ _ x=>x);revert h₁;refine gi λ SO SQ b SR hf hq=> ?_;induction b with
     | next=>obtain rfl:=hf;exact ih.B ok fc hc hq s₁ SR
     | cont=>obtain rfl:=hf;exact⟨SO,SQ, .cont,SR,rfl,hq⟩
     | brk=>obtain rfl:=hf;exact⟨SO,SQ, .brk,SR,rfl,hq⟩
     | ret v=>obtain⟨u,rfl,hu⟩:=hf;exact⟨SO,SQ, .ret v,SR,⟨u,rfl,hu⟩,hq⟩
    refine cL (o:=F.an.cut (key (nS st)) σ) (λ UJ=> ?on) λ A UJ=> ?os
    case on=>rw[UJ]at h;exact go ads σ r h
    case os=>
     rw[UJ]at h;revert h;refine bF λ Tj h1=> ?_;revert Tj;refine dw λ x h0=> ?_;unfold fgt at h0;rw[fc.ini]at h0;refine aj (r.fgt h0) λ Tu UO UB=> ?_;exact go Tu _ UO (h1 x UB)
end
end
section
open PySem.Calls
section
variable{w:aQ}{mg mb:Tm}{bud:Nat}{Γ:ak->Option aH}
def n0(fd:FuncData)(args:List AV)(locs:List (ab×AV)):Prop:=∀(P:fm) (ads:Ld) (vals:Lv) (s:aw),bk ads args vals->(K0 P).In s.heap->
 ∃binds,BindsTo s fd ⟨vals, []⟩ binds/\(∀x∈binds,fd.scope.names.lookup x.1=W6 .local)/\aW (λ(p:ab×AV) (q:ab×az)=>p.1=q.1/\aU ads p.2 q.2) locs binds.reverse
structure fH (w:aQ) (f:ak) (fd:FuncData) (body:List cD):Prop where
 at_:∃o,(K0 w.params).lookup f=W6 o/\o.data= .func fd
 code:codeIn (K0 w.params) fd.code fd.qualname=W8
 body:fd.body= .stmts body
 glob:fd.globals=ie
 blt:fd.builtins=builtinsNs
 co:fd.scope.isCoroutine=W9
 gen:fd.scope.isGenerator=W9
 kind:fd.scope.kind= .function
 clos:fd.closure= []
def bg(ini:Nat)(Q:Tq)(f:AF)(σ:AS):Prop:=match f with
 | .ret v=>iN ini v σ.objs Q
 | .next=>iN ini .non σ.objs Q
 | _=>False
theorem Js(c:aW (λ(p:ab×AV) (q:ab×az)=>p.1=q.1/\aU ads p.2 q.2) l b):l.lookup x=W6 v->∃u,b.lookup x=W6 u/\aU ads v u:=by
 induction c with
 | nil=>exact λ h=>nomatch h
 | @cons p q _ _ h1 _ ih=>
  intro h;rw[gO]at h ⊢
  rw[←h1.1];cases e:x==p.1 with
  | true=>rw[e]at h;(injection h with zq;subst zq);exact⟨_,rfl,h1.2⟩
  | false=>rw[e]at h;exact ih h
noncomputable def yX(l:List (ab×NameKind)):Bool:=l.all λ x=>match x.2 with
 | .cell=>W9
 | _=>W8
noncomputable def s9(l:List (ab×NameKind))(ns:List ab):Bool:=ns.all λ n=>match l.lookup n with
 | some .local=>W8
 | _=>W9
noncomputable def Cx.of(D:Dx)(q:ab)(sc:et)(L f:ak)(cd:az)(cells:List (ab×ak))(ini:Ld):Cx:=
 { toDx:={ D with dp:=D.dp+1,un:=D.un+3 },qual:=q++ ".<locals>.",scope:=sc,L:=L,fn:=W6 f,cd:=cd,cells:=cells,ini:=ini,fa:=L,comp:=W9 }
section
variable{D:Dx}{q:ab}{sc:et}{L f:ak}{cd:az}{cells:List (ab×ak)}{ini ads ads':Ld}{Q:Tq}{R:Tr}{σ':AS}{s':aw}
theorem s_(T5:jc w mg mb b D)(hb:bud+1<=b)(hk:sc.kind= .function)(hL:∀b o,D.base.get? b=W6 o->b≠L):bc w mg mb bud (Cx.of D q sc L f cd cells ini):=by
 refine⟨⟨T5.K,T5.top,T5.stays, ?_, ?_,T5.fro,T5.bm⟩,hk,λ _=>⟨rfl, ?_⟩⟩
 ·have:=T5.dp;show D.dp+1+4*bud+5<_;lia
 ·have:=T5.un;show D.un+3+40*bud+40<_;lia
 ·show D.base.get? L=W7
  cases q:D.base.get? L with
  | none=>rfl
  | some ob=>exact(hL _ _ q rfl).elim
theorem yY(r:bK (Cx.of D q sc L f cd cells ini) ads' σ' s'):∃os fr,je D ads' σ'.objs s' os fr:=by
 revert r;refine dk λ os fr m Y=> ?_;exact⟨os,fr,Y.hgens,Y.hdrawn,Y.hos,λ b ob e=>Y.F.keep b ob e,λ p hp=>⟨(Y.N p hp).1,(Y.N p hp).2.2⟩,Y.len,Y.objs,Y.nd,Y.frs⟩
theorem n5(hi:ads <+:ini)(r:bK (Cx.of D q sc L f cd cells ini) ads' σ' s')(hc:aU ads' v u)(hq:iN ads.length v σ'.objs Q):lX D ads Q R (.ok (.ret u)) s':=by
 refine lP (yY r) λ os fr Y=> ?_;unfold iN rS at hq
 generalize gc ads.length (gY v) σ'.objs=κ at hq
 refine aI (bA hq) λ VR hq=> ?_;refine cL (o:=iu κ σ'.objs) (λ q1=> ?on) λ objs' q1=> ?os
 case on=>rw[q1]at hq;exact hq.elim
 case os=>
  refine cL (o:=AV.toL κ v) (λ q2=> ?on) λ v' q2=> ?os
  case on=>rw[q1,q2]at hq;exact hq.elim
  case os=>
   rw[q1,q2]at hq;refine aI (Y.fgt (r6 VR) q1) λ TQ L=> ?_;revert r;refine dk λ _ _ _ Z=> ?_;exact⟨_,objs',v',r5 VR (hi.trans Z.ini),L,nC hc q2,hq⟩
theorem ta(Ve:bc w mg mb bud (Cx.of D q sc L f cd cells ini))(hi:ads <+:ini)(hp:dD (Cx.of D q sc L f cd cells ini) (λ k σ=>bL ads.length k σ.objs R) e s'):
  aC (ag pw w) (Cx.of D q sc L f cd cells ini).A (leaving (Cx.of D q sc L f cd cells ini).env e) (λ _ s''=>lX D ads Q R (.error e) s'') (λ e' s''=>lX D ads Q R (.error e') s'') s':=by
 obtain⟨ads',σ',k,⟨os',fr',m',Y⟩,UR,ex,hq⟩:=hp;unfold leaving;refine aB (nD Ve rfl Y UR ex λ h' tk os'' fr'' Y' fl=> ?_);refine lZ Y' fl W7 λ VT Y'' Wg=> ?_;obtain⟨UX,Tg,Z⟩:=yY (σ':=σ') ⟨_,_,_,Y''⟩;unfold bL iN rS at hq
 generalize gc ads.length (gY (.ob k)) σ'.objs=κ at hq
 obtain⟨VR,hq⟩:=bA hq;refine cL (o:=iu κ σ'.objs) (λ q1=> ?on) λ objs' q1=> ?os
 case on=>rw[q1]at hq;exact hq.elim
 case os=>
  refine cL (o:=AV.toL κ (.ob k)) (λ q2=> ?on) λ v' q2=> ?os
  case on=>rw[q1,q2]at hq;exact hq.elim
  case os=>
   rw[q1,q2]at hq;refine aj (ez.mp q2) λ j hj zq2=> ?_;subst zq2;simp only at hq;refine aI (Z.fgt (r6 VR) q1) λ TQ L=> ?_;refine⟨_,objs',j,r5 VR (hi.trans Y''.ini),L, ?_, ?_,hq⟩
   ·revert UR
    refine dw λ d hd=> ?_;refine aj ((pC q1).get (iO hj)) λ a h1 h2=> ?_;rcases hd with hd | hd
    ·rw[hd]at h2
     refine aj (ez.mp h2) λ d' _ zq2=> ?_;subst zq2;exact⟨d', .inl h1⟩
    ·rw[hd]at h2
     refine aj (ez.mp h2) λ d' _ zq2=> ?_;subst zq2;exact⟨d', .inr h1⟩
   ·revert Wg
    refine pa λ a oe vs ha zq4 Uh V2 hsz T oT ts t1 t2 t3 t4 t5 t6 t7 t8=> ?_;subst zq4;refine⟨a,oe,vs,iP (iO hj) ha,rfl,Uh,V2,hsz, .inr ⟨T,oT,ts,t1,t2,λ q=>t3 ?_,t5,t6,t7,t8⟩⟩;refine aj (iQ TQ q) λ i _ e=> ?_;exact dH e
end
def qm(w:aQ)(cd:az)(pins:Ld)(code:Option (ak×Nat)):Prop:=∀p,code=W6 p->cd= .ref p.1/\∃P,pins[p.2]? =W6 P/\∀h,(K0 w.params).In h->CodeHd h p.1 P
theorem cH:qm w cd pins W7:=λ _ h=>nomatch h
@[reducible] def Jt(Γ:ak->Option aH)(n:Nat)(fd:FuncData)(body:List cD)(pins:Ld)(calm:Bool)(code:Option (ak×Nat))(Q:Tq)(R:Tr)(args:List AV)(objs:La):Prop:=
 ∃locs an,n0 fd args locs/\aL Γ ⟨fd.scope,objs.length, [],pins,calm,W7,fd.qualname++ ".<locals>.",code,an⟩ n body ⟨locs,objs⟩ (bg objs.length Q) (λ k σ=>bL objs.length k σ.objs R)
theorem cI{fd:FuncData}{body:List cD}{c:aH}{code:Option (ak×Nat)}(G:aX w mg mb bud Γ)(hb:bud+1<=c.bud)(K:fH w f fd body)(UK:yX fd.scope.names=W8)(TR:qm w fd.code c.pins code)
  (h:∀args objs Q R,c.spec args objs Q R->Jt Γ n fd body c.pins c.calm code Q R args objs):
  bx w mg mb f c:=by
 intro D ads objs args vals s Q R T5 S8 TP led TZ hsz hspec;refine cY (h args objs Q R hspec) λ locs an T6 Vv=> ?_;revert led;refine jq λ os fr X=> ?_;refine aj K.at_ λ o ho hd=> ?_;have hK:(K0 w.params).In s.heap:=T5.K.keeps X.stays;refine cO (T6 w.params ads vals s TZ hK) λ binds hB V_ Uk=> ?_;have hlen:objs.length=ads.length:=by rw[X.objs.len,X.len]
 refine EJ (fd:=fd) (body:=body) (binds:=binds) ?_ (hK _ _ ho) hd (T5.top.nolimit.keeps X.stays) (codeRec_of hK K.code) K.body hB (λ x hx q=>by have:=i8.mp UK x hx;rw[q]at this;contradiction) V_ (λ h₀ TY hk=> ?_) K.co K.gen K.kind
 ·have:=T5.dp;show D.dp<_;lia
 ·have old:∀b o,s.heap.get? b=W6 o->b≠s.heap.objs.size:=λ b o e q=>by subst q;exact gR _ (ed e)
  have Ve:bc w mg mb bud (Cx.of D fd.qualname fd.scope s.heap.objs.size f fd.code [] ads):=s_ T5 hb K.kind λ b o e=>old _ _ (X.stays _ _ (T5.stays _ _ e));have hE:callEnv fd s.heap.objs.size f= (Cx.of D fd.qualname fd.scope s.heap.objs.size f fd.code [] ads).env:=by
   unfold callEnv;rw[K.glob,K.blt,K.clos];rfl
  have fc:FC w ⟨fd.scope,objs.length, [],c.pins,c.calm,W7,fd.qualname++ ".<locals>.",code,an⟩ (Cx.of D fd.qualname fd.scope s.heap.objs.size f fd.code [] ads):=by
   refine⟨rfl,(λ k e=>nomatch e),rfl,λ p hp=> ?_,hlen,(λ x k e=>nomatch e),TP,S8⟩
   refine ni (TR p hp) λ h1 P h2 h3=> ?_;exact⟨h1,P,TP _ _ h2,h3⟩
  have Xb:aE (Cx.of D fd.qualname fd.scope s.heap.objs.size f fd.code [] ads) ads ⟨locs,objs⟩ { s with heap:=h₀,toks:=s.toks+binds.length } os fr (λ x=>binds.reverse.lookup x):=by
   refine⟨X.hgens,X.hdrawn,X.hos,⟨TY,λ b ob e=>hk _ _ (X.stays _ _ e),hsz⟩,λ x v e=>Js Uk e,λ p hp=> ?_,X.len,X.objs,X.nd,X.frs,cN _⟩;have:=X.N p hp;exact⟨hk _ _ this.1,old _ _ this.1,this.2⟩
  rw[hE];show ai _ (Cx.of D fd.qualname fd.scope s.heap.objs.size f fd.code [] ads).A _ _ _ _;rw[hlen]at Vv;refine aK ((mv G n).B Ve (by rw[hlen]at fc;exact fc) rfl Vv _ ⟨_,_,_,Xb⟩) (λ fl s' hp=> ?_) λ e s' hp=>ta Ve (cN _) hp
  revert hp;refine gi λ ads' σ' b r hf hq=> ?_;induction b with
  | next=>obtain rfl:=hf;exact n5 (v:= .non) (cN _) r rfl hq
  | ret v=>obtain⟨u,rfl,hu⟩:=hf;exact n5 (cN _) r hu hq
  | brk=>exact hq.elim
  | cont=>exact hq.elim
theorem yZ{ns:List ab}{vs:Lv}{l:List (ab×NameKind)}(h:s9 l ns=W8):∀x∈ns.zip vs,l.lookup x.1=W6 .local:=λ x hx=>by
 refine aj (js hx) λ i h1 _=> ?_;have:=i8.mp h _ (dH h1);revert this
 split
 ·rename_i q;intro _;exact q
 ·intro q;contradiction
theorem te:∀{ns:List ab} {as:List AV} {vs:Lv},bk ads as vs->aW (λ(p:ab×AV) (q:ab×az)=>p.1=q.1/\aU ads p.2 q.2) (ns.zip as) (ns.zip vs)
 | [],_,_,_=>by simp;exact .nil
 | _::_,_,_, .nil=> .nil
 | _::_,_,_, .cons x y=> .cons ⟨rfl,x⟩ (te y)
theorem cT(ns:List ab)(hl:s9 fd.scope.names ns=W8)(hb:∀vals:List az,vals.length=args.length->bindArgs fd ⟨vals, []⟩=pure (ns.zip vals)):n0 fd args (ns.zip args).reverse:=by
 intro P ads vals s hv hK;exact⟨ns.zip vals,BindsTo.of_eq (hb vals hv.len.symm),yZ hl,s7 (te hv)⟩
theorem jZ(ns:List ab)(hl:s9 fd.scope.names ns=W8)(hT:fd.defaults= .ref T)(hKT:∀P,∃o,(K0 P).lookup T=W6 o/\o.data= .seq items nn)
  (hb:∀vals:List az,vals.length=args.length->∃k,bindArgs fd ⟨vals, []⟩=seqItems? (.ref T) >>=k/\k (W6 items)=pure (ns.zip (vals++dv))) (hd:∀ads,bk ads dav dv):n0 fd args (ns.zip (args++dav)).reverse:=by
 intro P ads vals s hv hK;refine aj (hKT P) λ o ho hdat=> ?_;refine aj (hb vals hv.len.symm) λ k h1 h2=> ?_;exact⟨ns.zip (vals++dv),binds_K hK hT ho hdat (by rw[h1,hT]) h2,yZ hl,s7 (te (hv.append (hd ads)))⟩
theorem Ju:aX w mg mb bud (λ _=>W7):=⟨(λ _ _ _ h=>nomatch h),(λ _ _ h=>nomatch h),(λ _ _ _ h=>nomatch h),(λ _ _ h=>nomatch h)⟩
end
end
section
open PySem.Calls
section
variable{w:aQ}{mg mb:Tm}{C:Cx}{ads:Ld}{σ:AS}{bud:Nat}{F:Cf}{R:Tn}{Γ:ak->Option aH}
def dF(J:AS->Prop)(Q:AF->AS->Prop)(f:AF)(SN:AS):Prop:=match f with
 | .next=>J SN
 | f=>Q f SN
theorem Jv(G:aX w mg mb bud Γ)(ok:bc w mg mb bud C)(fc:FC w F C)(hc:C.comp=W9)(h2:∀ads σ,J σ->WS w C ads σ (dM post C.env) Q R):
  ∀{pre:List cD} {n:Nat} {ads σ},aL Γ F n pre σ (dF J Q) R->WS w C ads σ (dM (pre++post) C.env) Q R:=by
 intro pre;induction pre with
 | nil=>
  intro n ads σ h;induction n with
  | zero=>exact h.elim
  | succ n=>exact h2 ads σ h
 | cons st rest ih=>
  intro n ads σ h s r;induction n with
  | zero=>exact h.elim
  | succ n=>
  have h:sx (F.an.cut (key (nS st)) σ) F.ini σ λ σ=>mm Γ F n st σ (λ f SN=>match f with
   | .next=>aL Γ F n rest SN (dF J Q) R
   | f=>dF J Q f SN) R:=h
  have go:∀ads σ,bK C ads σ s->(mm Γ F n st σ (λ f SN=>match f with
   | .next=>aL Γ F n rest SN (dF J Q) R
   | f=>dF J Q f SN) R)->ai (ag pw w) C.A (dM (st::(rest++post)) C.env) (iV C Q) (dD C R) s:=λ ads σ r h=>by
   refine wu (aK ((mv G n).S ok fc hc h s r) (λ f s₁ h₁=> ?_) λ _ _ x=>x);revert h₁;refine gi λ SO SQ b SR hf hq=> ?_;induction b with
   | next=>obtain rfl:=hf;exact ih hq s₁ SR
   | cont=>obtain rfl:=hf;exact⟨SO,SQ, .cont,SR,rfl,hq⟩
   | brk=>obtain rfl:=hf;exact⟨SO,SQ, .brk,SR,rfl,hq⟩
   | ret v=>obtain⟨u,rfl,hu⟩:=hf;exact⟨SO,SQ, .ret v,SR,⟨u,rfl,hu⟩,hq⟩
  refine cL (o:=F.an.cut (key (nS st)) σ) (λ UJ=> ?on) λ A UJ=> ?os
  case on=>rw[UJ]at h;exact go ads σ r h
  case os=>
   rw[UJ]at h;revert h;refine bF λ Tj h1=> ?_;obtain⟨x,h0⟩:=Tj;unfold fgt at h0;rw[fc.ini]at h0;refine aj (r.fgt h0) λ Tu UO UB=> ?_;exact go Tu _ UO (h1 x UB)
theorem Jw(fc:FC w F C)(h:fgt F.ini σ τ P)(h2:P->∀ads,WS w C ads τ (dM t C.env) Q R):WS w C ads σ (dM t C.env) Q R:=λ s r=>by
 unfold fgt at h;rw[fc.ini]at h;refine aj (r.fgt h) λ Tu UO p=> ?_;exact h2 p Tu s UO
end
end
section
open PySem.Calls
section
variable{w:aQ}{mg mb:Tm}{bud:Nat}{Γ:ak->Option aH}
noncomputable def j0:List (ab×NameKind)->List ab->List ab
 | [],acc=>acc
 | (n,k)::r,acc=>match k== .cell with
  | true=>j0 r (n::acc)
  | false=>j0 r acc
theorem Jx:j0 ((n,k)::r) acc=match k== .cell with
  | true=>j0 r (n::acc)
  | false=>j0 r acc:=rfl
theorem tf:∀(names:List (ab×NameKind)) (n:Nat) (acc:List (ab×ak)),(cellsFrom n names acc).map (·.1)=j0 names (acc.map (·.1))
 | [],_,_=>rfl
 | (x,k)::r,n,acc=>by
  rw[Jx];unfold cellsFrom;cases h:k==NameKind.cell with
  | true=>rw[if_pos rfl];exact tf r (n+1) ((x,n)::acc)
  | false=>rw[if_neg (by decide)];exact tf r n acc
noncomputable def k9(base:Nat):List ab->List (ab×Nat)
 | []=> []
 | x::r=>(x,base)::k9 (base+1) r
theorem y4:∀{cs:List (ab×ak)} {pre:Ld},(k9 pre.length (cs.map (·.1))).lookup x=W6 k->∃a,cs.lookup x=W6 a/\(pre++cs.map (·.2))[k]? =W6 a
 | [],_,h=>nomatch h
 | (y,a)::cs,pre,h=>by
  have h:List.lookup x ((y,pre.length)::k9 (pre.length+1) (cs.map (·.1)))=W6 k:=h;rw[gO]at h ⊢
  cases e:x==y with
  | true=>
   rw[e]at h;(injection h with zq;subst zq)
   refine⟨a,rfl, ?_⟩;rw[kl (ba _),Nat.sub_self];rfl
  | false=>
   rw[e]at h;have h:(k9 (pre++ [a]).length (cs.map (·.1))).lookup x=W6 k:=by rw[bD];exact h
   refine aj (y4 h) λ b h1 h2=> ?_;refine⟨b,h1, ?_⟩;rw[cS]at h2;exact h2
noncomputable def n6:List ab->Bool
 | []=>W8
 | x::r=> !(r.any (· ==x)) && n6 r
theorem tg:∀{cs:List (ab×ak)},n6 (cs.map (·.1))=W8->∀p∈cs,cs.lookup p.1=W6 p.2
 | [],_,_,h=>nomatch h
 | (y,a)::cs,h,p,hp=>by
  refine aI (bE.mp (show (!((cs.map (·.1)).any (· ==y)) && n6 (cs.map (·.1)))=W8 from h)) λ h1 h2=> ?_
  rw[gO];rcases bR.mp hp with rfl | hp
  ·rw[beq_self_eq_true]
  ·cases e:p.1==y with
   | true=>
    have:((cs.map (·.1)).any (· ==y))=W8:=m8.mpr ⟨p.1,gN hp,e⟩;rw[this]at h1;contradiction
   | false=>exact tg h2 p hp
noncomputable def mw(loc:Bool)(x:ab)(a:AV)(n:ab):AO:=match loc with
 | true=> .cl0
 | false=>match n==x with
  | true=> .cel a
  | false=> .cl0
noncomputable def th(loc:Bool)(x:ab)(a:AV):List (ab×AV):=match loc with
 | true=> [(x,a)]
 | false=> []
theorem Jy{h:bS}{cm:Tm}:∀{cs:List (ab×ak)},(∀p∈cs,h.IsCell p.2 (cm p.1))->∃ol:List Obj,aW (λ(p:ab×ak) (o:Obj)=>h.get? p.2=W6 o/\o.data= .cell (cm p.1)) cs ol:=by
 intro cs;induction cs with
 | nil=>
  intro _;exact⟨[], .nil⟩
 | cons p cs ih=>
  intro hc;refine aj (hc p (.head _)) λ o h1 h2=> ?_;refine cv (ih λ q hq=>hc q (.tail _ hq)) λ ol h3=> ?_;exact⟨o::ol, .cons ⟨h1,h2⟩ h3⟩
theorem Jz{ads:Ld}{h:bS}{cm:Tm}{loc:Bool}{x:ab}{a:AV}(Wb:∀n o,o.data= .cell (cm n)->cy ads (mw loc x a n) o):∀{cs:List (ab×ak)} {ol:Lo},
  aW (λ(p:ab×ak) (o:Obj)=>h.get? p.2=W6 o/\o.data= .cell (cm p.1)) cs ol->aW (cy ads) ((cs.map (·.1)).map (mw loc x a)) ol:=
 λ c=>by
 induction c with
 | nil=>exact .nil
 | cons p _ ih=>exact .cons (Wb _ _ p.2) ih
theorem JA{h:bS}{cm:Tm}:∀{cs:List (ab×ak)} {ol:Lo},
  aW (λ(p:ab×ak) (o:Obj)=>h.get? p.2=W6 o/\o.data= .cell (cm p.1)) cs ol->∀p∈(cs.map (·.2)).zip ol,h.get? p.1=W6 p.2/\∃n,(n,p.1)∈cs:=
 λ c=>by
 induction c with
 | nil=>exact λ _ h=>nomatch h
 | @cons c _ _ _ x _ ih=>
  intro p hp;rcases bR.mp (show p∈(c.2,_)::((_:List (ab×ak)).map (·.2)).zip _ from hp) with rfl | hp
  ·exact⟨x.1,c.1, .head _⟩
  ·refine rj (ih p hp) λ h1 n h2=> ?_
   exact⟨h1,n, .tail _ h2⟩
theorem y5{f:ak}{fd:FuncData}{body:List cD}{c:aH}{code:Option (ak×Nat)}{x:ab}(loc:Bool)(ns:List ab)(TY:j0 fd.scope.names []=ns)(hb:bud+1<=c.bud)(K:fH w f fd body)(TR:qm w fd.code c.pins code)
  (T6:∀v,bindArgs fd ⟨[v], []⟩=pure [(x,v)]) (hx:fd.scope.names.lookup x=W6 (match loc with
   | true=> .local
   | false=> .cell)) (Vu:n6 ns=W8) (Vk:loc=W9->ns.any (· ==x)=W8)
  (h:∀args objs Q R,c.spec args objs Q R->∃a an,args= [a]/\∀C ads,bc w mg mb bud C->FC w ⟨fd.scope,objs.length+ns.length,k9 objs.length ns,c.pins,c.calm,W7,fd.qualname++ ".<locals>.",code,an⟩ C->C.comp=W9->WS w C ads ⟨th loc x a,objs++ns.map (mw loc x a)⟩ (dM body C.env) (bg objs.length Q) (λ k σ=>bL objs.length k σ.objs R)):
  bx w mg mb f c:=by
 intro D ads objs args vals s Q R T5 S8 TP led TZ hsz hspec;refine cY (h args objs Q R hspec) λ a an zq2 Vv=> ?_;subst zq2;revert led;refine jq λ os fr X=> ?_;refine aj K.at_ λ o ho hd=> ?_;have hK:(K0 w.params).In s.heap:=T5.K.keeps X.stays;cases TZ with
 | cons ha hnil=>
 rename_i v vs;cases hnil;have hlen:objs.length=ads.length:=by rw[X.objs.len,X.len]
 have hcn:(cellsFrom (s.heap.objs.size+1) fd.scope.names []).map (·.1)=ns:= (tf _ _ _).trans TY
 generalize Wo:cellsFrom (s.heap.objs.size+1) fd.scope.names []=cs at hcn
 refine EK (fd:=fd) (body:=body) (binds:= [(x,v)]) ?_ (hK _ _ ho) hd (T5.top.nolimit.keeps X.stays) (codeRec_of hK K.code) K.body (T6 v) K.clos (λ y hy=> ?_) (λ s₁ Y=> ?_) K.co K.gen K.kind
 ·have:=T5.dp;show D.dp<_;lia
 ·rw[dI.mp hy]
  induction loc with
  | true=>exact .inl hx
  | false=>
   refine .inr ⟨hx, ?_⟩;rw[Wo];have h1:=Vk rfl;rw[←hcn]at h1;refine aj (m8.mp h1) λ y hy e=> ?_;refine aj (cZ.mp hy) λ p hp zq2=> ?_;subst zq2;have e:p.1=x:=by simpa using e
   have:=tg (cs:=cs) (by rw[hcn];exact Vu) p hp
   rw[e]at this;show (List.lookup x cs).isSome=W8;rw[this];rfl
 ·have hE:callEnvC fd s.heap.objs.size f= (Cx.of D fd.qualname fd.scope s.heap.objs.size f fd.code cs (ads++cs.map (·.2))).env:=by
   unfold callEnvC;rw[K.glob,K.blt,Wo];rfl
  rw[hE]at Y ⊢
  have old:∀b o,s.heap.get? b=W6 o->b<s.heap.objs.size:=λ b o e=>ed e;have Ve:bc w mg mb bud (Cx.of D fd.qualname fd.scope s.heap.objs.size f fd.code cs (ads++cs.map (·.2))):=s_ T5 hb K.kind λ b o e=>fj (old _ _ (X.stays _ _ (T5.stays _ _ e)));have hil:(ads++cs.map (·.2)).length=objs.length+ns.length:=by rw[bD,dq,←hcn,dq,hlen]
  have fc:FC w ⟨fd.scope,objs.length+ns.length,k9 objs.length ns,c.pins,c.calm,W7,fd.qualname++ ".<locals>.",code,an⟩ (Cx.of D fd.qualname fd.scope s.heap.objs.size f fd.code cs (ads++cs.map (·.2))):=by
   refine⟨rfl,(λ k e=>nomatch e),rfl,λ p hp=> ?_,hil.symm,λ y k e=> ?_,λ i b e=>dB (c9 _ _) (TP i b e),S8⟩
   ·refine ni (TR p hp) λ h1 P h2 h3=> ?_
    exact⟨h1,P,dB (c9 _ _) (TP _ _ h2),h3⟩
   ·rw[←hcn,hlen]at e
    exact y4 e
  refine lP Y.toInCall.same λ h₀ tk zq2=> ?_;subst zq2;have hk:=Y.toInCall.keep;have above:∀n c,(n,c)∈cs->s.heap.objs.size<c:=Y.above;obtain⟨ol,WJ⟩:=Jy (h:=h₀) (cs:=cs) λ p hp=>Y.cell p.1 p.2 (tg (cs:=cs) (by rw[hcn];exact Vu) p hp)
  have Xb:aE (Cx.of D fd.qualname fd.scope s.heap.objs.size f fd.code cs (ads++cs.map (·.2))) (ads++cs.map (·.2)) ⟨th loc x a,objs++ns.map (mw loc x a)⟩ { s with heap:=h₀,toks:=tk } (os++ol) fr (bindL (Cx.of D fd.qualname fd.scope s.heap.objs.size f fd.code cs (ads++cs.map (·.2))).env.kindOf [(x,v)] λ _=>W7):=by
   have hzip:(ads++cs.map (·.2)).zip (os++ol)=ads.zip os++(cs.map (·.2)).zip ol:=List.zip_append X.len.symm;refine⟨X.hgens,X.hdrawn,X.hos,⟨Y.toInCall.ns,λ b ob e=>hk _ _ (X.stays _ _ e),hsz⟩,λ y u e=> ?_,λ p hp=> ?_, ?_, ?_, ?_,X.frs,cN _⟩
   ·induction loc with
    | true=>
     have e:List.lookup y [(x,a)]=W6 u:=e;rw[gO]at e;have hx':(Cx.of D fd.qualname fd.scope s.heap.objs.size f fd.code cs (ads++cs.map (·.2))).env.kindOf x=W6 .local:=hx;unfold bindL bindL;rw[if_pos hx'];refine cF (b:=y==x) (λ q=> ?bt) λ q=> ?bf
     case bt=>
      rw[q]at e;(injection e with zq;subst zq)
      have q:y=x:=by simpa using q
      exact⟨v,by rw[if_pos q],ha.mono (c9 _ _)⟩
     case bf=>rw[q]at e;contradiction
    | false=>contradiction
   ·rw[hzip]at hp
    have:p∈ads.zip os++fr∨p∈(cs.map (·.2)).zip ol:=by
     simp only[bV]at hp ⊢
     rcases hp with(h | h) | h
     ·exact .inl (.inl h)
     ·exact .inr h
     ·exact .inl (.inr h)
    rcases this with hp | hp
    ·have:=X.N p hp
     exact⟨hk _ _ this.1,fj (old _ _ this.1),this.2⟩
    ·refine rj (JA WJ p hp) λ h1 n h2=> ?_
     have:=above n p.1 h2;refine⟨h1,Nat.ne_of_gt this, ?_⟩;show D.g.get? p.1=W7;cases q:D.g.get? p.1 with
     | none=>rfl
     | some ob=>exact absurd (old _ _ (X.stays _ _ q)) (ij.mpr (f_ this))
   ·rw[bD,bD,X.len,←WJ.len,dq]
   ·refine(aW.mono (λ _ _ y=>y.mono (c9 _ _)) X.objs).append ?_
    rw[←hcn];refine Jz (λ n o hd=> ?_) WJ;induction loc with
    | true=>
     have hx':(Cx.of D fd.qualname fd.scope s.heap.objs.size f fd.code cs (ads++cs.map (·.2))).env.kindOf x=W6 .local:=hx;unfold bindC bindC at hd;rw[if_pos hx']at hd;exact hd
    | false=>
     have hx': ¬ (Cx.of D fd.qualname fd.scope s.heap.objs.size f fd.code cs (ads++cs.map (·.2))).env.kindOf x=W6 .local:=by
      have h2:(Cx.of D fd.qualname fd.scope s.heap.objs.size f fd.code cs (ads++cs.map (·.2))).env.kindOf x=W6 .cell:=hx;rw[h2];decide
     unfold bindC bindC at hd;rw[if_neg hx']at hd;unfold mw;cases q:n==x with
     | true=>
      have q:n=x:=by simpa using q
      rw[if_pos q]at hd;exact⟨v,hd,ha.mono (c9 _ _)⟩
     | false=>
      have q:n≠x:=beq_eq_false_iff_ne.mp q;rw[if_neg q]at hd;exact hd
   ·have hd:=cC.mp X.nd
    have small:∀b∈ads++fr.map (·.1),b<s.heap.objs.size:=λ b hb=>by
     have:b∈(ads.zip os++fr).map (·.1):=by rw[eJ,nu X.len];exact hb
     refine aj (cZ.mp this) λ p hp zq2=> ?_;subst zq2;exact old _ _ (X.N p hp).1
    have big:∀b∈cs.map (·.2),s.heap.objs.size<b:=λ b hb=>by
     refine aj (cZ.mp hb) λ p hp zq2=> ?_;subst zq2;exact above p.1 p.2 hp
    have hcsn:(cs.map (·.2)).Nodup:=List.pairwise_map.mpr Y.apart;rw[cS];refine cC.mpr ⟨hd.1,cC.mpr ⟨hcsn,hd.2.1,λ b h1 c h2 e=> ?_⟩,λ b h1 c h2 e=> ?_⟩
    ·subst e;exact Nat.lt_asymm (big b h1) (small b (cu _ h2))
    ·subst e
     rcases bV.mp h2 with h2 | h2
     ·exact Nat.lt_asymm (big b h2) (small b (bU _ h1))
     ·exact hd.2.2 b h1 b h2 rfl
  show ai _ (Cx.of D fd.qualname fd.scope s.heap.objs.size f fd.code cs (ads++cs.map (·.2))).A _ _ _ _;have TI:ads <+:ads++cs.map (·.2):=c9 _ _;rw[hlen]at Vv fc;refine aK (Vv _ _ Ve fc rfl _ ⟨_,_,_,Xb⟩) (λ fl s' hp=> ?_) λ e s' hp=>ta Ve TI hp;revert hp;refine gi λ ads' σ' b r hf hq=> ?_;induction b with
  | next=>obtain rfl:=hf;exact n5 (v:= .non) TI r rfl hq
  | ret v=>obtain⟨u,rfl,hu⟩:=hf;exact n5 TI r hu hq
  | brk=>exact hq.elim
  | cont=>exact hq.elim
theorem JB{fd:FuncData}{body:List cD}{c:aH}{code:Option (ak×Nat)}(loc:Bool)(ns:List ab)(TY:j0 fd.scope.names []=ns)(G:aX w mg mb bud Γ)(hb:bud+1<=c.bud)(K:fH w f fd body)(TR:qm w fd.code c.pins code)
  (T6:∀v,bindArgs fd ⟨[v], []⟩=pure [(x,v)]) (hx:fd.scope.names.lookup x=W6 (match loc with
   | true=> .local
   | false=> .cell)) (Vu:n6 ns=W8) (Vk:loc=W9->ns.any (· ==x)=W8)
  (h:∀args objs Q R,c.spec args objs Q R->∃a an,args= [a]/\aL Γ ⟨fd.scope,objs.length+ns.length,k9 objs.length ns,c.pins,c.calm,W7,fd.qualname++ ".<locals>.",code,an⟩ n body ⟨th loc x a,objs++ns.map (mw loc x a)⟩ (bg objs.length Q) (λ k σ=>bL objs.length k σ.objs R)):
  bx w mg mb f c:=
 y5 loc ns TY hb K TR T6 hx Vu Vk λ args objs Q R hs=>by
  refine cY (h args objs Q R hs) λ a an e Vv=> ?_;exact⟨a,an,e,λ C ads ok fc hc=>(mv G n).B ok fc hc Vv⟩
end
end
section
open PySem.Calls
section
variable{w:aQ}{mg mb:Tm}{bud:Nat}{Γ:ak->Option aH}
theorem qn(G:aX w mg mb bud Γ)(hb:bud+1<=c.bud)(UK:yX (bG i).scope.names=W8)(hk:(bG i).scope.kind= .function)(Wa:(bG i).scope.isCoroutine=W9)(UT:(bG i).scope.isGenerator=W9)
  (hpar:∀clos pm ca ctv,bindArgs (kla_fn "<lambda>" (bG i).qual (bG i).params (bG i).body (bG i).scope clos pm (.ref ca) ctv) ⟨[], []⟩=pure [])
  (h:∀kf objs Q R,c.spec [.ob kf] objs Q R->∃cc cs an,objs[kf]? =W6 (.lam i cc cs)/\objs[cc]? =W6 (.cod (bG i).qual)/\bh Γ ⟨(bG i).scope,objs.length,cs,c.pins,c.calm,W7,(bG i).qual++ ".<locals>.",W7,an⟩ n (bG i).body ⟨[],objs⟩ (λ a σ=>iN objs.length a σ.objs Q) (λ k σ=>bL objs.length k σ.objs R)):
  jX w mg mb i c:=by
 intro D ads objs kf f s Q R T5 S8 TP led hf _ hsz hspec;refine kD (h kf objs Q R hspec) λ cc cs an hkf hcc Vv=> ?_;revert led;refine jq λ os fr X=> ?_;have hlen:objs.length=ads.length:=by rw[X.objs.len,X.len]
 have obj:∀{k ao a},objs[k]? =W6 ao->ads[k]? =W6 a->∃o,cy ads ao o/\s.heap.get? a=W6 o:=λ {k ao a} h ha=>by
  refine aj (X.objs.get h) λ o ho hr=> ?_;exact⟨o,hr,(X.N _ (bU fr (eI ha ho))).1⟩
 refine aj (obj hkf hf) λ o SY hg=> ?_;obtain⟨clos,pm,ca,ctv,hca,VF,rfl⟩:=SY;refine aj (obj hcc hca) λ oc SY hgc=> ?_;obtain⟨vs,t,hd,hq⟩:=SY;have old:∀b o,s.heap.get? b=W6 o->b≠s.heap.objs.size:=λ b o e=>fj (ed e);refine rK ?_ hg rfl Wa UT (.inr ⟨_,rfl,rfl⟩) ⟨ca,oc,vs,t,rfl,hgc,hd,hq⟩ ?_
 ·have:=T5.dp;show D.dp<_;lia
 rw[hpar];refine bW (wpAny_newFunctionEnv (λ x hx q=>by have:=i8.mp UK x hx;rw[q]at this;contradiction) (λ x hx=>nomatch hx) (λ h₁ TY hsb=>⟨(T5.top.nolimit.keeps X.stays).fresh _ hsb, ?_⟩) hk)
 have VQ:∀b o,s.heap.get? b=W6 o->h₁.get? b=W6 o:=λ b o e=>hsb.extBut b o (old b o e) (dt _ e);have Ve:bc w mg mb bud (Cx.of D (bG i).qual (bG i).scope s.heap.objs.size f (.ref ca) clos ads):=s_ T5 hb hk λ b o e=>old _ _ (X.stays _ _ (T5.stays _ _ e));have fc:FC w ⟨(bG i).scope,ads.length,cs,c.pins,c.calm,W7,(bG i).qual++ ".<locals>.",W7,an⟩ (Cx.of D (bG i).qual (bG i).scope s.heap.objs.size f (.ref ca) clos ads):=by
  refine⟨rfl,(λ k e=>nomatch e),rfl,(λ p hp=>nomatch hp),rfl,λ y k e=> ?_,TP,S8⟩
  exact yy (R:=λ k a=>ads[k]? =W6 a) VF e
 have Xb:aE (Cx.of D (bG i).qual (bG i).scope s.heap.objs.size f (.ref ca) clos ads) ads ⟨[],objs⟩ { s with heap:=h₁,toks:=s.toks+0 } os fr (λ _=>W7):=by
  refine⟨X.hgens,X.hdrawn,X.hos,⟨TY,λ b ob e=>VQ _ _ (X.stays _ _ e),hsz⟩,(λ x v e=>nomatch e),λ p hp=> ?_,X.len,X.objs,X.nd,X.frs,cN _⟩
  have:=X.N p hp;exact⟨VQ _ _ this.1,old _ _ this.1,this.2⟩
 show cf _ _ (.expr (bG i).body (Cx.of D (bG i).qual (bG i).scope s.heap.objs.size f (.ref ca) clos ads).env) _ _;refine EI ?_;show ai _ (Cx.of D (bG i).qual (bG i).scope s.heap.objs.size f (.ref ca) clos ads).A _ _ _ _;rw[hlen]at Vv;refine aK ((iW G n).E Ve fc Vv _ ⟨_,_,_,Xb⟩) (λ u s' hp=> ?_) λ e s' hp=>ta Ve (cN _) hp;revert hp;refine gU λ ads' σ' b _ r hc hq=> ?_;exact n5 (cN _) r hc hq
end
end
section
open PySem.Calls
section
variable{w:aQ}{mg mb:Tm}
noncomputable def y6(v:AV):Bool:=match v with
 | .non=>W8
 | _=>W9
noncomputable def qo(C:ak)(c:aH):aH where
 foot:=λ args _=>args.flatMap gY
 spec:=λ as os Q R=>c.spec (.ob (os.length+1)::as) (os++ [.dic [], .inst C os.length]) (λ v os'=>aG (y6 v) (Q (.ob (os.length+1)) os')) R
 bud:=c.bud+1
 pins:=c.pins
 calm:=c.calm
noncomputable def Dx.inB(D:Dx)(c:Code):Dx:={ D with dp:=D.dp+c.weight,un:=D.un+c.cUnits,gd:=pushGuards c.guards D.gd }
theorem gZ.outB(h:gZ (D.inB c) ads objs s):gZ D ads objs s:=by
 revert h;refine jq λ os fr x=> ?_;exact⟨os,fr,x.hgens,x.hdrawn,x.hos,x.stays,x.N,x.len,x.objs,x.nd,x.frs⟩
theorem jc.inB(h:jc w mg mb (b+1) D)(h1:c.weight<=4)(h2:c.cUnits<=40):jc w mg mb b (D.inB c):=by
 refine⟨h.K,h.top,h.stays, ?_, ?_,h.fro,h.bm⟩
 ·have:=h.dp;show D.dp+c.weight+4*b+5<_;lia
 ·have:=h.un;show D.un+c.cUnits+40*b+40<_;lia
theorem je.push{D:Dx}{ads:Ld}{objs:La}{s:aw}{os:Lo}{fr:Tf}(x:je D ads objs s os fr){tk:Nat}{o:Obj}{ao:AO}(hf:o.isFreed=W9)(hr:cy (ads++ [s.heap.objs.size]) ao o):
  je D (ads++ [s.heap.objs.size]) (objs++ [ao]) { s with heap:=s.heap.push o,toks:=tk } (os++ [o]) fr:=by
 have hp:ads <+:ads++ [s.heap.objs.size]:=c9 _ _;have old:∀b ob,s.heap.get? b=W6 ob->b≠s.heap.objs.size:=λ b ob e q=>by subst q;exact gR _ (ed e)
 have VC:s.heap.objs.size ∉ ads++fr.map (·.1):=λ q=>by
  have:s.heap.objs.size∈(ads.zip os++fr).map (·.1):=by rw[eJ,nu x.len];exact q
  refine aj (cZ.mp this) λ p hp e=> ?_;exact old _ _ (x.N p hp).1 e
 refine⟨x.hgens,x.hdrawn,x.hos,λ b ob e=>dt _ (x.stays b ob e), ?_,by rw[bD,bD,x.len];rfl,(aW.mono (λ _ _ y=>y.mono hp) x.objs).append (.cons hr .nil), ?_,x.frs⟩
 ·rw[wO x.len]
  intro p hp;have:p∈ads.zip os++fr∨p= (s.heap.objs.size,o):=by
   simp only[bV,bR,List.not_mem_nil,or_false]at hp ⊢
   rcases hp with(h | h) | h
   ·exact .inl (.inl h)
   ·exact .inr h
   ·exact .inl (.inr h)
  rcases this with h | rfl
  ·exact⟨dt _ (x.N p h).1,(x.N p h).2⟩
  ·refine⟨fx _ hf, ?_⟩
   cases q:D.g.get? s.heap.objs.size with
   | none=>rfl
   | some ob=>exact(old _ _ (x.stays _ _ q) rfl).elim
 ·rw[cS]
  have hd:=cC.mp x.nd;refine cC.mpr ⟨hd.1,ku.mpr ⟨λ q=>VC (cu _ q),hd.2.1⟩,λ b hb c hc e=> ?_⟩;subst e;rcases bR.mp hc with rfl | hc
  ·exact VC (bU _ hb)
  ·exact hd.2.2 b hb b hc rfl
theorem ti{C fI:ak}{c:aH}(S:bx w mg mb fI c)(hm:makesIn (K0 w.params) C=W8)(hi:eX (K0 w.params) (.ref C) "__init__" =W6 (W6 (.ref fI)))(hf:typeIn (K0 w.params) (.ref fI)=W6 (.type "function")):bx w mg mb C (qo C c):=by
 intro D ads objs args vals s Q R T5 S8 TP led TZ hsz hspec;revert led;refine jq λ os fr X=> ?_;have hK:(K0 w.params).In s.heap:=T5.K.keeps X.stays;have hlen:objs.length=ads.length:=by rw[X.objs.len,X.len]
 have X1:=X.push (tk:=s.toks) (o:=fN) (ao:= .dic []) rfl ⟨[],0,rfl, .nil⟩;have X2:=X1.push (tk:=s.toks) (o:=instObj C s.heap.objs.size) (ao:= .inst C objs.length) rfl ⟨s.heap.objs.size,by rw[hlen];simp,rfl⟩
 have U8:(s.heap.push fN).objs.size=s.heap.objs.size+1:=iG _ _;have Uu:ads <+:ads++ [s.heap.objs.size]++ [(s.heap.push fN).objs.size]:=by rw[cS];exact c9 _ _
 obtain⟨hh,g,d,t,oss⟩:=s;refine EX (makes_of hK hm) (looks_findIn hK hi) (λ self=>bind_fn hK self hf) rfl ?_;have hE:D.A.under (.builtin "type.__call__" ⟨.ref C::vals, []⟩)= (D.inB (.builtin "type.__call__" ⟨.ref C::vals, []⟩)).A:=rfl;rw[hE];have UC:(ads++ [hh.objs.size]++ [(hh.push fN).objs.size])[objs.length+1]? =W6 (hh.objs.size+1):=by
  rw[hlen,cS,kl (kr ..),Nat.add_sub_cancel_left];show W6 (hh.push fN).objs.size=_;rw[U8]
 refine iI (S (D.inB _) _ _ (.ob (objs.length+1)::args) (.ref (hh.objs.size+1)::vals) ⟨(hh.push fN).push (instObj C hh.objs.size),g,d,t,oss⟩ _ R (T5.inB (gM rfl) (gM rfl)) S8 (λ i a h=>dB Uu (TP i a h)) ⟨_,_,X2.hgens,X2.hdrawn,X2.hos,X2.stays,X2.N,X2.len, ?_,X2.nd,X2.frs⟩ (.cons ⟨_,UC,rfl⟩ (TZ.mono Uu)) ?_ hspec) λ r s' hr=> ?_
 ·have e:objs++ [Xh [],Xg C objs.length]=objs++ [.dic []]++ [.inst C objs.length]:=by simp
  rw[e];exact X2.objs
 ·show D.g.objs.size<=_
  rw[iG,iG];exact fk hsz (by show hh.objs.size<=_;lia)
 ·induction r with
  | ok fl=>
   induction fl with
   | ret v=>
    revert hr;refine gU λ ads' objs' av hp L hc hq=> ?_;refine aI (bA hq) λ hn hq=> ?_;refine⟨?_,ads',objs', .ob (objs.length+1),Uu.trans hp,L.outB,⟨_,dB hp UC,rfl⟩,hq⟩;induction av <;> first | exact hc | injection hn
   | _=>exact hr.elim
  | error e=>
   revert hr;refine kE λ ads' objs' k hp L hd ex hq=> ?_;exact⟨ads',objs',k,Uu.trans hp,L.outB,hd,ex,hq⟩
end
end
section
open PySem.Calls
def dm(as:List AV)(f:List AV->Prop):Prop:=match as with
 | .ob k::r=>aG (aO k 0) (f r)
 | _=>False
theorem hU{a b c:Int}(h1:b<c)(h2:b<a):(a - c).toNat<(a - b).toNat:=
 (Int.toNat_lt_toNat (Int.sub_pos_of_lt h2)).mpr (Int.sub_lt_sub_left h1 a)
theorem qp(h:dm as f):∃r,as= .ob 0::r/\f r:=by
 induction as with
 | nil=>exact aF h
 | cons a r=>
  induction a <;> first | exact aF h | skip
  refine aI (bA h) λ h1 h=> ?_;rw[dc h1];exact⟨_,rfl,h⟩
theorem dQ{f:List AV->Prop}{M:List AV->Prop}(h:dm as f)(k:∀r,f r->M (.ob 0::r)):M as:=by
 obtain⟨r,rfl,q⟩:=qp h;exact k r q
def bM(as:List AV)(P:Prop):Prop:=match as with
 | []=>P
 | _::_=>False
theorem n8(h:bM as P):as= []/\P:=by
 induction as with
 | nil=>exact⟨rfl,h⟩
 | cons a r=>exact h.elim
theorem cg{M:List AV->Prop}(h:bM as P)(k:P->M ([])):M as:=by
 obtain⟨rfl,q⟩:=n8 h;exact k q
def cz(as:List AV)(f:AV->List AV->Prop):Prop:=match as with
 | []=>False
 | a::r=>f a r
theorem y7(h:cz as f):∃a r,as=a::r/\f a r:=by
 induction as with
 | nil=>exact h.elim
 | cons a r=>exact⟨a,r,rfl,h⟩
theorem cJ{f:AV->List AV->Prop}{M:List AV->Prop}(h:cz as f)(k:∀a r,f a r->M (a::r)):M as:=by
 obtain⟨a,r,rfl,q⟩:=y7 h;exact k a r q
def gq(a:AV)(f:Int->Prop):Prop:=match a with
 | .num i=>f i
 | _=>False
theorem mx(h:gq a f):∃i,a= .num i/\f i:=by
 induction a <;> first | exact⟨_,rfl,h⟩ | exact h.elim
theorem j3{f:Int->Prop}{M:AV->Prop}(h:gq a f)(k:∀i,f i->M (.num i)):M a:=by
 obtain⟨i,rfl,q⟩:=mx h;exact k i q
def gJ(a:AV)(f:List Nat->Prop):Prop:=match a with
 | .by_ i=>f i
 | _=>False
theorem tj(h:gJ a f):∃i,a= .by_ i/\f i:=by
 induction a <;> first | exact⟨_,rfl,h⟩ | exact h.elim
theorem iX{f:List Nat->Prop}{M:AV->Prop}(h:gJ a f)(k:∀i,f i->M (.by_ i)):M a:=by
 obtain⟨i,rfl,q⟩:=tj h;exact k i q
def iz(a:AV)(f:List Nat->Prop):Prop:=match a with
 | .st i=>f i
 | _=>False
theorem JC(h:iz a f):∃i,a= .st i/\f i:=by
 induction a <;> first | exact⟨_,rfl,h⟩ | exact h.elim
theorem jf{f:List Nat->Prop}{M:AV->Prop}(h:iz a f)(k:∀i,f i->M (.st i)):M a:=by
 obtain⟨i,rfl,q⟩:=JC h;exact k i q
noncomputable def aY(l:Ln)(a e:Int):List AO:= [.inst 155 1, .dic [("data", .by_ l),("at", .num a),("end", .num e)]]
def fu{α:Type}(l:List α)(f:α->List α->Prop):Prop:=match l with
 | []=>False
 | a::r=>f a r
theorem fJ(h:fu l f):∃a r,l=a::r/\f a r:=by
 induction l with
 | nil=>exact h.elim
 | cons a r=>exact⟨a,r,rfl,h⟩
def hX{α:Type}(l:List α)(P:Prop):Prop:=match l with
 | []=>P
 | _::_=>False
theorem iA(h:hX l P):l= []/\P:=by
 induction l with
 | nil=>exact⟨rfl,h⟩
 | cons a r=>exact h.elim
noncomputable def y8(o:AO):Option (ak×Nat):=if h:o.ctorIdx=0 then AO.inst.elim o h (λ C d=>W6 (C,d)) else W7
theorem JD(h:y8 o=W6 x):o= .inst x.1 x.2:=
 cv (dn h) λ hc h=>AO.inst.elim (motive:=λ o=>∀hc:o.ctorIdx=0,(AO.inst.elim o hc λ C d=>W6 (C,d):Option (ak×Nat))=W6 x->o= .inst x.1 x.2) o hc (λ C d _ h=>congrArg (λ x:ak×Nat=>Xg x.1 x.2) (bQ h)) hc h
theorem n9(h:jS o=W6 x):o= .dic x:=
 cv (dn h) λ hc h=>AO.dic.elim (motive:=λ o=>∀hc:o.ctorIdx=1,(AO.dic.elim o hc λ l=>W6 l:Option (List (ab×AV)))=W6 x->o= .dic x) o hc (λ l _ h=>congrArg Xh (bQ h)) hc h
def my(o:AO)(C d:Nat)(P:Prop):Prop:=aJ (y8 o) λ p=>aG (aO p.1 C && aO p.2 d) P
theorem n_(h:my o C d P):o= .inst C d/\P:=by
 refine aj (bw h) λ p h1 h=> ?_;refine aI (bA h) λ h2 h=> ?_;refine aI (bE.mp h2) λ h2 h3=> ?_;exact⟨by rw[JD h1,dc h2,dc h3],h⟩
def mz(l:List (ab×AV))(n:ab)(f:AV->List (ab×AV)->Prop):Prop:=fu l λ p r=>aG (p.1==n) (f p.2 r)
theorem oa(h:mz l n f):∃v r,l= (n,v)::r/\f v r:=by
 refine cY (fJ h) λ p r h1 h=> ?_;refine aI (bA h) λ h2 h=> ?_;exact⟨p.2,r,by rw[h1,←iw h2],h⟩
def eZ(objs:La)(f:List Nat->Int->Int->Prop):Prop:=fu objs λ o r=>fu r λ p r=>hX r (my o 155 1 (aJ (jS p) λ l=>mz l "data" λ x l=>mz l "at" λ y l=>mz l "end" λ z l=>hX l (gJ x λ l=>gq y λ a=>gq z λ e=>f l a e)))
theorem y9(h:eZ objs f):∃l a e,objs=aY l a e/\f l a e:=by
 refine cY (fJ h) λ o r e1 h=> ?_;refine cY (fJ h) λ p r2 e2 h=> ?_;refine aI (iA h) λ e3 h=> ?_;refine aI (n_ h) λ e4 h=> ?_;refine aj (bw h) λ l e5 h=> ?_;refine cY (oa h) λ x l1 e6 h=> ?_;refine cY (oa h) λ y l2 e7 h=> ?_;refine cY (oa h) λ z l3 e8 h=> ?_;refine aI (iA h) λ e9 h=> ?_;refine aj (tj h) λ b f1 h=> ?_;refine aj (mx h) λ a f2 h=> ?_;refine aj (mx h) λ e f3 h=> ?_;exact⟨b,a,e,by rw[e1,e2,e3,e4,n9 e5,e6,e7,e8,e9,f1,f2,f3];rfl,h⟩
theorem fY{f:List Nat->Int->Int->Prop}{M:List AO->Prop}(h:eZ objs f)(k:∀l a e,f l a e->M (aY l a e)):M objs:=by
 obtain⟨l,a,e,rfl,q⟩:=y9 h;exact k l a e q
noncomputable def dV(args:List AV)(objs:La):List Nat:=match args with
 | .ob k::_=>match objs[k]? with
  | some (.inst _ d)=> [k,d]
  | _=> []
 | _=> []
noncomputable def ck(o:Obj):FuncData:=match o.data with
 | .func fd=>fd
 | _=>fnOf "" "" (fA (tp 0)) [] (fS (tp 0)) .none .none .none .none W7 .none .none
theorem kq{A B:Prop}(h:A)(e:A=B:=by kernel_rfl):B:=cb e h
theorem cA{w:aQ}{f:ak}{n q:ab}{s:cD}{d:az}{m:ab}{t:Tok}{c:ak}{o:Obj}(e:o=b8 n q s d m t c)(h:(K0 w.params).lookup f=W6 (b8 n q s d m t c):=by kernel_rfl)(hc:codeIn (K0 w.params) (.ref c) q=W8:=by kernel_rfl)(h1:(fS s).isCoroutine=W9:=by rfl)(h2:(fS s).isGenerator=W9:=by rfl)(h3:(fS s).kind= .function:=by rfl):fH w f (ck o) (fB s):=by
 subst e;exact⟨⟨_,h,rfl⟩,hc,rfl,rfl,rfl,h1,h2,h3,rfl⟩
noncomputable def aN:List (ak×aH)->ak->Option aH
 | [],_=>W7
 | p::r,f=>match aO p.1 f with
  | true=>W6 p.2
  | false=>aN r f
theorem JE:aN (p::r) f=match aO p.1 f with
 | true=>W6 p.2
 | false=>aN r f:=rfl
section
variable{w:aQ}{mg mb:Tm}
theorem j4(g:ak)(d:aH)(h:aN ((f,c)::l) g=W6 d):(f=g/\c=d)∨aN l g=W6 d:=by
 rw[JE]at h;refine cF (b:=aO f g) (λ q=> ?bt) λ q=> ?bf
 case bt=>simp only[q]at h;exact .inl ⟨dc q,bQ h⟩
 case bf=>simp only[q]at h;exact .inr h
theorem aX.cons{bud:Nat}{l:List (ak×aH)}{f:ak}{c:aH}(G:aX w mg mb bud (aN l))(S:bx w mg mb f c)(hb:Nat.ble c.bud bud=W8)(hk:keepIn (K0 w.params) (.ref f)=W8)(hf:dT f 100000=W8:=by rfl):aX w mg mb bud (aN ((f,c)::l)):=by
 refine⟨λ g d hg h=> ?_,λ g d h=> ?_,λ g d hg h=> ?_,λ i d h=> ?_⟩
 ·rcases j4 g d h with⟨rfl,rfl⟩ | h
  ·exact S
  ·exact G.sound g d hg h
 ·rcases j4 g d h with⟨rfl,rfl⟩ | h
  ·exact gM hb
  ·exact G.bud g d h
 ·rcases j4 g d h with⟨rfl,rfl⟩ | h
  ·exact hk
  ·exact G.keep g d hg h
 ·rcases j4 _ d h with⟨rfl,rfl⟩ | h
  ·have:100000+i<100000:=by simpa[gh] using hf
   exact absurd this (ij.mpr (kr 100000 i))
  ·exact G.lam i d h
theorem aX.consL{bud:Nat}{l:List (ak×aH)}{i:Nat}{c:aH}(G:aX w mg mb bud (aN l))(S:jX w mg mb i c)(hb:Nat.ble c.bud bud=W8):aX w mg mb bud (aN ((100000+i,c)::l)):=by
 refine⟨λ g d hg h=> ?_,λ g d h=> ?_,λ g d hg h=> ?_,λ j d h=> ?_⟩
 ·rcases j4 g d h with⟨rfl,rfl⟩ | h
  ·exact absurd hg (ij.mpr (kr 100000 i))
  ·exact G.sound g d hg h
 ·rcases j4 g d h with⟨rfl,rfl⟩ | h
  ·exact gM hb
  ·exact G.bud g d h
 ·rcases j4 g d h with⟨rfl,rfl⟩ | h
  ·exact absurd hg (ij.mpr (kr 100000 i))
  ·exact G.keep g d hg h
 ·rcases j4 _ d h with⟨e,rfl⟩ | h
  ·obtain rfl:i=j:=Nat.add_left_cancel (show 100000+i=100000+j from e)
   exact S
  ·exact G.lam j d h
theorem aX.nil{bud:Nat}:aX w mg mb bud (aN []):=Ju
noncomputable abbrev fv(f:Nat->Option eS)(k:LK):fE:=⟨f,λ _=>k,λ _ _=>W7,λ _ _=>W7,λ _=>W7,λ _=>0⟩
noncomputable abbrev cU(s:et)(n:Nat)(calm:Bool)(q:ab)(an:fE):Cf:=⟨s,n, [], [],calm,W7,q,W7,an⟩
theorem k_(h1:0<=a)(h2:0<=b)(h3:n<=1048576):bB (W6 a) (W6 b) n:=⟨.inl h1,h2,h3⟩
theorem d8{P:List az->Prop}(h:∀a,P [a])(vals:Lv)(e:vals.length=1):P vals:=by
 refine cv (List.length_eq_one_iff.mp e) λ a SY=> ?_;subst SY;exact h a
theorem fK{P:List az->Prop}(h:∀a b,P [a,b])(vals:Lv)(e:vals.length=2):P vals:=by
 induction vals with
 | nil=>contradiction
 | cons a r=>exact d8 (P:=λ r=>P (a::r)) (λ b=>h a b) r (ng e)
theorem og{P:List az->Prop}(h:∀a b c,P [a,b,c])(vals:Lv)(e:vals.length=3):P vals:=by
 induction vals with
 | nil=>contradiction
 | cons a r=>exact fK (P:=λ r=>P (a::r)) (λ b c=>h a b c) r (ng e)
theorem JG{P:List az->Prop}(h:∀a b c d,P [a,b,c,d])(vals:Lv)(e:vals.length=4):P vals:=by
 induction vals with
 | nil=>contradiction
 | cons a r=>exact og (P:=λ r=>P (a::r)) (λ b c d=>h a b c d) r (ng e)
theorem JH{P:List az->Prop}(h:∀a b c d f,P [a,b,c,d,f])(vals:Lv)(e:vals.length=5):P vals:=by
 induction vals with
 | nil=>contradiction
 | cons a r=>exact JG (P:=λ r=>P (a::r)) (λ b c d f=>h a b c d f) r (ng e)
end
def aV(l:Ln)(a e:Int):Prop:=l.length<=1048576/\0<=a/\e<=l.length/\∀x∈l,x<256
noncomputable def aq(l:Ln)(a e i:Int):Int:=if 0<=a+i/\a+i<e then l.getD (a+i).toNat 0 else -1
def JI(as:List AV)(os:La)(Q:Tq)(f:List AV->(Int->Prop)->Prop):Prop:=dm as λ r=>eZ os λ l a e=>f r λ i=>aV l a e/\Q (.num (aq l a e i)) (aY l a e)
def JJ(r:List AV)(k:Int->Prop):Prop:=match r with
 | []=>k 0
 | a::r=>bM r (gq a k)
noncomputable def lh:aH:=⟨dV,λ as os Q _=>JI as os Q JJ,1, [],W9⟩
noncomputable def oi:aH:=⟨dV,λ as os Q _=>dm as λ r=>bM r (eZ os λ l a e=>aV l a e/\Q (.num (aq l a e 0)) (aY l (if 0<=aq l a e 0 then a+1 else a) e)),2, [],W9⟩
noncomputable def bl(l:Ln)(a e:Int)(w:Ln):Bool:=cond (W_ (a+w.length<=e)) (aR ((l.take (a+w.length).toNat).drop a.toNat) w) W9
noncomputable def ll:aH:=⟨dV,λ as os Q _=>dm as λ r=>cz r λ v r=>bM r (gJ v λ w=>eZ os λ l a e=>aV l a e/\w.length<=1000/\Q (.bo (bl l a e w)) (aY l a e)),1, [],W9⟩
noncomputable def qq:aH:=⟨dV,λ as os Q _=>dm as λ r=>cz r λ v r=>bM r (gJ v λ w=>eZ os λ l a e=>aV l a e/\w.length<=1000/\Q (.bo (bl l a e w)) (aY l (cond (bl l a e w) (a+w.length) a) e)),2, [],W9⟩
noncomputable def tm:aH:=⟨dV,λ as os Q _=>dm as λ r=>bM r (eZ os λ l a e=>Q (.bo (W_ (e<=a))) (aY l a e)),1, [],W9⟩
def TW(l cs:Ln)(a e b:Int):Prop:=a<=b/\(b<=e∨b=a)/\(∀j,a<=j->j<b->eg (l.getD j.toNat 0) cs=W8)/\(b<e->eg (l.getD b.toNat 0) cs=W9)
noncomputable def qr:aH:=⟨dV,λ as os Q _=>dm as λ r=>cz r λ v r=>bM r (gJ v λ cs=>eZ os λ l a e=>aV l a e/\∀b,TW l cs a e b->Q (.by_ ((l.take b.toNat).drop a.toNat)) (aY l b e)),1, [],W9⟩
noncomputable def dz(x:Int):Bool:=W_ (48<=x) && W_ (x<=57)
def DG(l:Ln)(a e:Int)(c:Nat):Prop:= (∀j:Nat,j<c->dz (aq l a e j)=W8)/\dz (aq l a e c)=W9
noncomputable def jg(l:Ln)(a:Int):Nat->Int
 | 0=>0
 | n+1=>jg l a n*10+l.getD (a+n).toNat 0 - 48
noncomputable def y_:aH:=⟨dV,λ as os Q _=>dm as λ r=>bM r (eZ os λ l a e=>aV l a e/\∀c,DG l a e c->cond (W_ (0<c) && W_ (c<=20)) (Q (.num (jg l a c)) (aY l (a+c) e)) (Q .non (aY l a e))),3, [],W8⟩
end
section
open PySem.Calls
section
variable{w:aQ}{mg mb:Tm}{l v:Ln}{a e i:Int}{q:ab}{Q:Tq}{R:Tr}
noncomputable abbrev FI(s:et)(q:ab):Cf:=cU s 2 W9 q aS
theorem za(hg:aV l a e)(hq:Q (.num (aq l a e i)) (aY l a e)):
  aL (aN []) (FI (fS (mt 8 2)) q) 40 (fB (mt 8 2)) ⟨[("ahead", .num i),("self", .ob 0)],aY l a e⟩ (bg 2 Q) (λ k σ=>bL 2 k σ.objs R):=by
 refine cb (?_:(cond (W_ (0<=a+i)) (cond (W_ (a+i<e)) (l.length<=1048576/\0<=a+i/\a+i<l.length/\Q (.num (l.getD (a+i).toNat 0)) (aY l a e)) (Q (.num (-1)) (aY l a e))) (Q (.num (-1)) (aY l a e)))=_) ?_
 ·kernel_rfl
 ·revert hg
  refine fq λ h1 h2 h3 _=> ?_;unfold aq at hq
  by_cases c1:0<=a+i
  ·by_cases c2:a+i<e
   ·rw[if_pos ⟨c1,c2⟩]at hq
    rw[decide_eq_true c1,decide_eq_true c2];exact⟨h1,c1,Int.lt_of_lt_of_le c2 h3,hq⟩
   ·rw[if_neg (λ q=>c2 q.2)]at hq
    rw[decide_eq_true c1,decide_eq_false c2];exact hq
  ·rw[if_neg (λ q=>c1 q.1)]at hq
   rw[decide_eq_false c1];exact hq
theorem JK:fH w 103 (ck vm) (fB (mt 8 2)):=cA rfl
theorem qs:bx w mg mb 103 lh:=by
 refine cI (n:=40) (bud:=0) aX.nil (ba _) JK (by kernel_rfl) cH λ args objs Q R h=> ?_
 apply dQ h;intro r h1;apply fY h1;intro l a e h
 clear h1
 induction r with
 | nil=>exact⟨_,aS,jZ (T:=96) (dav:= [.num 0]) (dv:= [.int 0 306]) (items:= #[.int 0 306]) ["self", "ahead"] (by kernel_rfl) rfl (λ P=>⟨rz,by kernel_rfl,rfl⟩) (d8 λ v=>⟨_,rfl,rfl⟩) (λ _=> .cons ⟨_,rfl⟩ .nil),za h.1 h.2⟩
 | cons v r=>
  apply cg h;intro h;apply j3 h;intro i h;exact⟨_,aS,jZ (T:=96) (dav:= []) (dv:= []) (items:= #[.int 0 306]) ["self", "ahead"] (by kernel_rfl) rfl (λ P=>⟨rz,by kernel_rfl,rfl⟩) (fK λ v v'=>⟨_,rfl,rfl⟩) (λ _=> .nil),za h.1 h.2⟩
theorem G1:aX w mg mb 1 (aN [(103,lh)]):=aX.nil.cons qs rfl (by kernel_rfl)
theorem JL(hg:aV l a e)(hq:Q (.num (aq l a e 0)) (aY l (if 0<=aq l a e 0 then a+1 else a) e)):
  aL (aN [(103,lh)]) (FI (fS (mt 8 3)) q) 40 (fB (mt 8 3)) ⟨[("self", .ob 0)],aY l a e⟩ (bg 2 Q) (λ k σ=>bL 2 k σ.objs R):=by
 refine cb (?_:(aV l a e/\cond (W_ (0<=aq l a e 0)) (Q (.num (aq l a e 0)) (aY l (a+1) e)) (Q (.num (aq l a e 0)) (aY l a e)))=_) ?_
 ·kernel_rfl
 ·refine⟨hg, ?_⟩
  by_cases c:0<=aq l a e 0
  ·rw[if_pos c]at hq;rw[decide_eq_true c];exact hq
  ·rw[if_neg c]at hq;rw[decide_eq_false c];exact hq
theorem JM:fH w 110 (ck vo) (fB (mt 8 3)):=cA rfl
theorem tr:bx w mg mb 110 oi:=by
 refine cI (n:=40) (bud:=1) G1 (ba _) JM (by kernel_rfl) cH λ args objs Q R h=> ?_
 apply dQ h;intro r h;apply cg h;intro h;apply fY h;intro l a e h;exact⟨_,aS,cT ["self"] (by kernel_rfl) (d8 λ v=>rfl),JL h.1 h.2⟩
theorem JO(hg:aV l a e)(hv:v.length<=1000)(hq:Q (.bo (bl l a e v)) (aY l a e)):
  aL (aN []) (FI (fS (mt 8 4)) q) 40 (fB (mt 8 4)) ⟨[("word", .by_ v),("self", .ob 0)],aY l a e⟩ (bg 2 Q) (λ k σ=>bL 2 k σ.objs R):=by
 refine cb (?_:(v.length<=1048576/\cond (W_ (a+v.length<=e)) (v.length<=1048576/\bB (W6 a) (W6 (a+v.length)) l.length/\Q (.bo (aR ((l.take (a+v.length).toNat).drop a.toNat) v)) (aY l a e)) (Q (.bo W9) (aY l a e)))=_) ?_
 ·kernel_rfl
 ·revert hg
  refine fq λ h1 h2 h3 _=> ?_;have VM:v.length<=1048576:=fk hv (by decide)
  refine⟨VM, ?_⟩;unfold bl at hq
  by_cases c:a+v.length<=e
  ·rw[decide_eq_true c]at hq ⊢
   exact⟨VM,k_ h2 (by lia) h1,hq⟩
  ·rw[decide_eq_false c]at hq ⊢
   exact hq
theorem JP:fH w 117 (ck vp) (fB (mt 8 4)):=cA rfl
theorem tu:bx w mg mb 117 ll:=by
 refine cI (n:=40) (bud:=0) aX.nil (ba _) JP (by kernel_rfl) cH λ args objs Q R h=> ?_
 apply dQ h;intro r h;apply cJ h;intro v r h;apply cg h;intro h;apply iX h;intro v h;apply fY h;intro l a e h;exact⟨_,aS,cT ["self", "word"] (by kernel_rfl) (fK λ v v'=>rfl),JO h.1 h.2.1 h.2.2⟩
theorem G2:aX w mg mb 1 (aN [(117,ll)]):=aX.nil.cons tu rfl (by kernel_rfl)
theorem JQ(hg:aV l a e)(hv:v.length<=1000)(hq:Q (.bo (bl l a e v)) (aY l (cond (bl l a e v) (a+v.length) a) e)):
  aL (aN [(117,ll)]) (FI (fS (mt 8 5)) q) 40 (fB (mt 8 5)) ⟨[("word", .by_ v),("self", .ob 0)],aY l a e⟩ (bg 2 Q) (λ k σ=>bL 2 k σ.objs R):=by
 refine cb (?_:(aV l a e/\v.length<=1000/\cond (!bl l a e v) (Q (.bo W9) (aY l a e)) (v.length<=1048576/\Q (.bo W8) (aY l (a+v.length) e)))=_) ?_
 ·kernel_rfl
 ·refine⟨hg,hv, ?_⟩
  generalize bl l a e v=b at hq
  induction b with
  | false=>exact hq
  | true=>exact⟨fk hv (by decide),hq⟩
theorem JR:fH w 124 (ck vq) (fB (mt 8 5)):=cA rfl
theorem tA:bx w mg mb 124 qq:=by
 refine cI (n:=40) (bud:=1) G2 (ba _) JR (by kernel_rfl) cH λ args objs Q R h=> ?_
 apply dQ h;intro r h;apply cJ h;intro v r h;apply cg h;intro h;apply iX h;intro v h;apply fY h;intro l a e h;exact⟨_,aS,cT ["self", "word"] (by kernel_rfl) (fK λ v v'=>rfl),JQ h.1 h.2.1 h.2.2⟩
theorem JS(hq:Q (.bo (W_ (e<=a))) (aY l a e)):
  aL (aN []) (FI (fS (mt 8 1)) q) 40 (fB (mt 8 1)) ⟨[("self", .ob 0)],aY l a e⟩ (bg 2 Q) (λ k σ=>bL 2 k σ.objs R):=kq hq
theorem JT:fH w 95 (ck vl) (fB (mt 8 1)):=cA rfl
theorem JU:bx w mg mb 95 tm:=by
 refine cI (n:=40) (bud:=0) aX.nil (ba _) JT (by kernel_rfl) cH λ args objs Q R h=> ?_
 apply dQ h;intro r h;apply cg h;intro h;apply fY h;intro l a e h;exact⟨_,aS,cT ["self"] (by kernel_rfl) (d8 λ v=>rfl),JS h⟩
end
end
section
open PySem.Calls
noncomputable def tB(m:Ln)(i:Int):List AO:= [.exn 1, .dic [("what", .st m),("at", .num i)]]
def tC(objs:La)(P:Prop):Prop:=match objs with
 | [.ex0]=>P
 | _=>False
theorem JV(h:tC objs P):objs= [.ex0]/\P:=by
 induction objs with
 | nil=>exact aF h
 | cons o r=>induction r with
  | cons _ _=>induction o <;> exact aF h
  | nil=>induction o <;> first | exact aF h | exact⟨rfl,h⟩
theorem JW{M:List AO->Prop}(h:tC objs P)(k:P->M ([.ex0])):M objs:=by
 obtain⟨rfl,q⟩:=JV h;exact k q
noncomputable def zb:aH where
 foot:=λ args _=>args.flatMap gY
 spec:=λ args os Q _=>dm args λ r=>tC os (cz r λ a r=>iz a λ m=>match r with
  | []=>Q .non (tB m (-1))
  | b::r=>bM r (gq b λ i=>Q .non (tB m i)))
 bud:=1
 pins:= []
 calm:=W9
section
variable{w:aQ}{mg mb:Tm}{m:Ln}{i:Int}{q:ab}{Q:Tq}{R:Tr}
noncomputable abbrev JX(s:et)(q:ab):Cf:=cU s 1 W9 q aS
theorem zc(hq:Q .non (tB m i)):aL (aN []) (JX (fS (mt 2 0)) q) 40 (fB (mt 2 0)) ⟨[("at", .num i),("what", .st m),("self", .ob 0)], [.ex0]⟩ (bg 1 Q) (λ k σ=>bL 1 k σ.objs R):=kq hq
theorem JY:fH w 36 (ck vj) (fB (mt 2 0)):=cA rfl
theorem JZ:bx w mg mb 36 zb:=by
 refine cI (n:=40) (bud:=0) aX.nil (ba _) JY (by kernel_rfl) cH λ args objs Q R h=> ?_
 apply dQ h;intro r h1;apply JW h1;intro h2;apply cJ h2;intro a r h3;apply jf h3;intro m h4
 clear h1 h2 h3
 induction r with
 | nil=>exact⟨_,aS,jZ (T:=29) (dav:= [.num (-1)]) (dv:= [.int (-1) 209]) (items:= #[.int (-1) 209]) ["self", "what", "at"] (by kernel_rfl) rfl (λ P=>⟨rx,by kernel_rfl,rfl⟩) (fK λ v v'=>⟨_,rfl,rfl⟩) (λ _=> .cons ⟨_,rfl⟩ .nil),zc h4⟩
 | cons v r=>
  apply cg h4;intro h;apply j3 h;intro i h;exact⟨_,aS,jZ (T:=29) (dav:= []) (dv:= []) (items:= #[.int (-1) 209]) ["self", "what", "at"] (by kernel_rfl) rfl (λ P=>⟨rx,by kernel_rfl,rfl⟩) (og λ v v' v''=>⟨_,rfl,rfl⟩) (λ _=> .nil),zc h⟩
end
end
section
open PySem.Calls
section
variable{w:aQ}{mg mb:Tm}
noncomputable def zd(c:aH):aH where
 foot:=λ args _=>args.flatMap gY
 spec:=λ as os Q R=>aG (Nat.ble as.length 10) (c.spec (.ob os.length::as) (os++ [.ex0]) (λ v os'=>aG (y6 v) (Q (.ob os.length) os')) R)
 bud:=c.bud+1
 pins:=c.pins
 calm:=c.calm
theorem je.junk{D:Dx}{ads:Ld}{objs:La}{s:aw}{os:Lo}{fr:Tf}(x:je D ads objs s os fr)(o:Obj){tk:Nat}:je D ads objs { s with heap:=s.heap.push o,toks:=tk } os fr:=
 ⟨x.hgens,x.hdrawn,x.hos,λ b ob e=>dt _ (x.stays b ob e),λ p hp=>⟨dt _ (x.N p hp).1,(x.N p hp).2⟩,x.len,x.objs,x.nd,x.frs⟩
theorem J3(S:bx w mg mb 36 c):bx w mg mb 71 (zd c):=by
 intro D ads objs args vals s Q R T5 S8 TP led TZ hsz hspec;refine aI (bA hspec) λ hl hspec=> ?_;revert led;refine jq λ os fr X=> ?_;have hK:(K0 w.params).In s.heap:=T5.K.keeps X.stays;have hlen:objs.length=ads.length:=by rw[X.objs.len,X.len]
 have X1:=X.junk (tk:=s.toks) (fU vals);have X2:=X1.push (tk:=s.toks) (o:=kK s.heap.objs.size) (ao:= .ex0) rfl ⟨_,rfl,rfl,rfl,rfl⟩;have U8:(s.heap.push (fU vals)).objs.size=s.heap.objs.size+1:=iG _ _;have Uu:ads <+:ads++ [(s.heap.push (fU vals)).objs.size]:=c9 _ _;have hv:vals.length<=sizeLine:=by
  have:=TZ.len;have:=gM hl;rw[gT];lia
 obtain⟨hh,g,d,t,oss⟩:=s;refine E9 hK hv ?_;have hE:D.A.under (.builtin "type.__call__" ⟨.ref 71::vals, []⟩)= (D.inB (.builtin "type.__call__" ⟨.ref 71::vals, []⟩)).A:=rfl;rw[hE];have UC:(ads++ [(hh.push (fU vals)).objs.size])[objs.length]? =W6 (hh.objs.size+1):=by
  rw[hlen,kl (ba _),Nat.sub_self,←U8];rfl
 refine iI (S (D.inB _) _ _ (.ob objs.length::args) (.ref (hh.objs.size+1)::vals) ⟨(hh.push (fU vals)).push (kK hh.objs.size),g,d,t,oss⟩ _ R (T5.inB (gM rfl) (gM rfl)) S8 (λ i a h=>dB Uu (TP i a h)) ⟨_,_,X2.hgens,X2.hdrawn,X2.hos,X2.stays,X2.N,X2.len,X2.objs,X2.nd,X2.frs⟩ (.cons ⟨_,UC,rfl⟩ (TZ.mono Uu)) ?_ hspec) λ r s' hr=> ?_
 ·show D.g.objs.size<=_
  rw[iG,iG];exact fk hsz (by show hh.objs.size<=_;lia)
 ·induction r with
  | ok fl=>
   induction fl with
   | ret v=>
    revert hr;refine gU λ ads' objs' av hp L hc hq=> ?_;refine aI (bA hq) λ hn hq=> ?_;refine⟨?_,ads',objs', .ob objs.length,Uu.trans hp,L.outB,⟨_,dB hp UC,rfl⟩,hq⟩;induction av <;> first | exact hc | injection hn
   | _=>exact hr.elim
  | error e=>
   revert hr;refine kE λ ads' objs' k hp L hd ex hq=> ?_;exact⟨ads',objs',k,Uu.trans hp,L.outB,hd,ex,hq⟩
noncomputable def iB:aH:=zd zb
theorem lp:bx w mg mb 71 iB:=J3 JZ
end
end
section
open PySem.Calls
noncomputable def jw(os:La)(n:Nat)(m:ab)(i:Int):List AO:=os++ [.exc (n+1), .dic [("what", .st m.cps.toList),("at", .num i)]]
noncomputable def lr:aH:=⟨dV,λ as os Q R=>dm as λ r=>cz r λ v r=>bM r (gJ v λ w=>eZ os λ l a e=>aV l a e/\w.length<=1000/\cond (bl l a e w) (Q .non (aY l (a+w.length) e)) (∀m,R 2 (jw (aY l a e) 2 m a))),4, [],W8⟩
section
variable{w:aQ}{mg mb:Tm}{l v:Ln}{a e i:Int}{q:ab}{Q:Tq}{R:Tr}
noncomputable abbrev ze(s:et)(q:ab):Cf:=cU s 2 W8 q aS
theorem J4(hg:aV l a e)(hv:v.length<=1000)(hq:cond (bl l a e v) (Q .non (aY l (a+v.length) e)) (∀m,R 2 (jw (aY l a e) 2 m a))):
  aL (aN [(71,iB),(124,qq)]) (ze (fS (tp 23)) q) 40 (fB (tp 23)) ⟨[("sign", .by_ v),("cursor", .ob 0)],aY l a e⟩ (bg 2 Q) (λ k σ=>bL 2 k σ.objs R):=by
 refine cb (?_:(aV l a e/\v.length<=1000/\cond (!bl l a e v) (R 2 (jw (aY l (cond (bl l a e v) (a+v.length) a) e) 2 "a sign of a section is missing" (cond (bl l a e v) (a+v.length) a))) (Q .non (aY l (cond (bl l a e v) (a+v.length) a) e)))=_) ?_
 ·kernel_rfl
 ·refine⟨hg,hv, ?_⟩
  generalize bl l a e v=b at hq
  induction b with
  | false=>exact hq _
  | true=>exact hq
theorem J5:fH w 225 (ck vz) (fB (tp 23)):=cA rfl
theorem J6:aX w mg mb 3 (aN [(71,iB),(124,qq)]):= (aX.nil.cons tA rfl (by kernel_rfl)).cons lp rfl (by kernel_rfl)
theorem tD:bx w mg mb 225 lr:=by
 refine cI (n:=40) (bud:=3) J6 (ba _) J5 (by kernel_rfl) cH λ args objs Q R h=> ?_
 apply dQ h;intro r h1;apply cJ h1;intro v r h2;apply cg h2;intro h3;apply iX h3;intro v h4;apply fY h4;intro l a e h5;exact⟨_,aS,cT ["cursor", "sign"] (by kernel_rfl) (fK λ v v'=>rfl),J4 h5.1 h5.2.1 h5.2.2⟩
end
end
section
open PySem.Calls
section
variable{w:aQ}{mg mb:Tm}{l v:Ln}{a e i:Int}{q:ab}{Q:Tq}{R:Tr}
noncomputable abbrev cQ(l:Ln)(b e:Int):Int:=if 0<=aq l b e 0 then b+1 else b
noncomputable abbrev tE:ab:= "nothing that is quoted"
noncomputable abbrev J7:ab:= "a quoted name without its end, or an odd sign in it"
noncomputable def lq(l:Ln)(e:Int)(OK:Int×List (List Nat)->Prop)(MU:Int×List (List Nat)->Nat):eS:=⟨Int×List (List Nat),λ x=>⟨[("signs", .ob 2),("cursor", .ob 0)],aY l x.1 e++ [.lstS x.2]⟩,λ _ x=>OK x,MU⟩
noncomputable abbrev FQ(s:et)(q:ab)(A:eS):Cf:=cU s 2 W8 q (fv (λ _=>W6 A) .ss)
abbrev lu(l:Ln)(e:Int)(OK:Int×List (List Nat)->Prop)(MU:Int×List (List Nat)->Nat)(R:Tr)(x:Int×List (List Nat))(c b' h:Int):Prop:=
 cond (!(W_ (32<=c) && W_ (c<127))) (R 2 (jw (aY l b' e) 2 J7 h)) (0<=c/\c<=1114111/\x.2.length<=1048576/\∃y:Int×List (List Nat),l=l/\b'=y.1/\e=e/\x.2++ [[c.toNat]]=y.2/\OK y/\MU y<MU x)
theorem J8(OK:Int×List (List Nat)->Prop)(MU:Int×List (List Nat)->Nat)(h0:OK (a, []))
  (h:∀x,OK x->aV l x.1 e/\cond (W_ (aq l x.1 e 0=34)) (bq x.2+x.2.length<=1048576/\Q (.st x.2.flatten) (aY l (cQ l x.1 e) e))
   (cond (W_ (aq l x.1 e 0=92)) (aV l (cQ l x.1 e) e/\cond (!fX (aq l (cQ l x.1 e) e 0) [34,92]) (R 2 (jw (aY l (cQ l (cQ l x.1 e) e) e) 2 tE (cQ l x.1 e))) (lu l e OK MU R x (aq l (cQ l x.1 e) e 0) (cQ l (cQ l x.1 e) e) (cQ l x.1 e)))
    (lu l e OK MU R x (aq l x.1 e 0) (cQ l x.1 e) x.1))):
  aL (aN [(71,iB),(110,oi)]) (FQ (fS (tp 31)) q (lq l e OK MU)) 40 (fB (tp 31)) ⟨[("cursor", .ob 0)],aY l a e⟩ (bg 2 Q) (λ k σ=>bL 2 k σ.objs R):=by
 refine cb (?_:((∃x:Int×List (List Nat),l=l/\a=x.1/\e=e/\ []=x.2/\OK x)/\∀x,OK x->aV l x.1 e/\cond (W_ (aq l x.1 e 0=34)) (bq x.2+x.2.length<=1048576/\Q (.st x.2.flatten) (aY l (cQ l x.1 e) e))
   (cond (W_ (aq l x.1 e 0=92)) (aV l (cQ l x.1 e) e/\cond (!fX (aq l (cQ l x.1 e) e 0) [34,92]) (R 2 (jw (aY l (cQ l (cQ l x.1 e) e) e) 2 tE (cQ l x.1 e))) (lu l e OK MU R x (aq l (cQ l x.1 e) e 0) (cQ l (cQ l x.1 e) e) (cQ l x.1 e)))
    (lu l e OK MU R x (aq l x.1 e 0) (cQ l x.1 e) x.1)))=_) ⟨⟨(a, []),rfl,rfl,rfl,rfl,h0⟩,h⟩
 kernel_rfl
end
end
section
open PySem.Calls
structure zf where
 ok:Bool
 acc:List Nat
 place:Int
 spot:Int
noncomputable def c8(l:Ln)(e:Int):Nat->Int->List Nat->zf
 | 0,b,xs=>⟨W9,xs,b,b⟩
 | n+1,b,xs=>cond (W_ (aq l b e 0=34)) ⟨W8,xs,b+1,b⟩
  (cond (W_ (aq l b e 0=92)) (cond (fX (aq l (b+1) e 0) [34,92]) (c8 l e n (b+2) (xs++ [(aq l (b+1) e 0).toNat])) ⟨W9,xs,cQ l (b+1) e,b+1⟩)
   (cond (W_ (32<=aq l b e 0) && W_ (aq l b e 0<127)) (c8 l e n (b+1) (xs++ [(aq l b e 0).toNat])) ⟨W9,xs,cQ l b e,b⟩))
theorem zg:c8 l e (n+1) b xs=cond (W_ (aq l b e 0=34)) ⟨W8,xs,b+1,b⟩
  (cond (W_ (aq l b e 0=92)) (cond (fX (aq l (b+1) e 0) [34,92]) (c8 l e n (b+2) (xs++ [(aq l (b+1) e 0).toNat])) ⟨W9,xs,cQ l (b+1) e,b+1⟩)
   (cond (W_ (32<=aq l b e 0) && W_ (aq l b e 0<127)) (c8 l e n (b+1) (xs++ [(aq l b e 0).toNat])) ⟨W9,xs,cQ l b e,b⟩)):=rfl
noncomputable def bb(l:Ln)(a e:Int):zf:=c8 l e ((e - a).toNat+1) a []
noncomputable def tF:aH:=⟨dV,λ as os Q R=>dm as λ r=>bM r (eZ os λ l a e=>aV l a e/\l.length<=500000/\cond (bb l a e).ok (Q (.st (bb l a e).acc) (aY l (bb l a e).place e)) (∀m,R 2 (jw (aY l (bb l a e).place e) 2 m (bb l a e).spot))),4, [],W8⟩
section
variable{w:aQ}{mg mb:Tm}{l v:Ln}{a b e i:Int}{q:ab}{Q:Tq}{R:Tr}
theorem mA(h:0<=aq l b e 0):0<=b/\b<e:=by
 unfold aq at h
 split at h
 ·rename_i q;exact⟨by lia,by lia⟩
 ·contradiction
theorem J9:∀{xs:Ll},(∀y∈xs,y.length=1)->bq xs=xs.length:=by
 intro xs;induction xs with
 | nil=>
  intro _;exact rfl
 | cons x r ih=>
  intro h;show x.length+bq r=r.length+1;rw[h x (.head _),ih λ y hy=>h y (.tail _ hy),Nat.add_comm]
def ly(l:Ln)(a e:Int)(x:Int×List (List Nat)):Prop:=a<=x.1/\(∀y∈x.2,y.length=1)/\(x.2.length:Int)<=x.1 - a/\(x.1=a∨x.1<=e)/\∃n,(e - x.1).toNat<n/\c8 l e n x.1 x.2.flatten=bb l a e
noncomputable def lz(e:Int)(x:Int×List (List Nat)):Nat:= (e+1 - x.1).toNat
end
end
section
open PySem.Calls
section
variable{w:aQ}{mg mb:Tm}{l v:Ln}{a b e i:Int}{q:ab}{Q:Tq}{R:Tr}
theorem J_{x:Int×List (List Nat)}{c:Int}{b':Int}{n:Nat}(hg:aV l a e)(h1:a<=x.1)(h2:∀y∈x.2,y.length=1)(h3:(x.2.length:Int)<=x.1 - a)(hb:x.1<b')(hbe:b'<=e)(hn:(e - b').toNat<n)
  (TQ:32<=c) (hhi:c<127) (hq:c8 l e n b' (x.2.flatten++ [c.toNat])=bb l a e):0<=c/\c<=1114111/\x.2.length<=1048576/\∃y:Int×List (List Nat),l=l/\b'=y.1/\e=e/\x.2++ [[c.toNat]]=y.2/\ly l a e y/\lz e y<lz e x:=by
 revert hg;refine fq λ g1 g2 g3 g4=> ?_;refine⟨by lia,by lia,by lia,⟨b',x.2++ [[c.toNat]]⟩,rfl,rfl,rfl,rfl,⟨by show a<=b';lia, ?_, ?_, .inr hbe,n,hn, ?_⟩, ?_⟩
 ·intro y hy
  rcases bV.mp hy with q | q
  ·exact h2 y q
  ·rw[dI.mp q];rfl
 ·show ((x.2++ [[c.toNat]]).length:Int)<=b' - a
  rw[bD,ri];lia
 ·show c8 l e n b' (x.2++ [[c.toNat]]).flatten=_
  rw[List.flatten_append];exact hq
 ·exact hU (by lia) (by lia)
theorem bN{p:Bool}{X Y:Prop}(h:p=W8)(x:X):cond p X Y:=by rw[h];exact x
theorem cn{p:Bool}{X Y:Prop}(h:p=W9)(y:Y):cond p X Y:=by rw[h];exact y
abbrev oj(l:Ln)(a e:Int)(Q:Tq)(R:Tr):Prop:=cond (bb l a e).ok (Q (.st (bb l a e).acc) (aY l (bb l a e).place e)) (∀m,R 2 (jw (aY l (bb l a e).place e) 2 m (bb l a e).spot))
theorem zh{x:Int×List (List Nat)}{c b' h:Int}{n:Nat}(hg:aV l a e)(h1:a<=x.1)(h2:∀y∈x.2,y.length=1)(h3:(x.2.length:Int)<=x.1 - a)(hb:0<=c->x.1<b'/\b'<=e/\(e - b').toNat<n)(TV:oj l a e Q R)
  (hq:cond (W_ (32<=c) && W_ (c<127)) (c8 l e n b' (x.2.flatten++ [c.toNat])) ⟨W9,x.2.flatten,b',h⟩=bb l a e):lu l e (ly l a e) (lz e) R x c b' h:=by
 refine cF (b:= (W_ (32<=c) && W_ (c<127))) (λ hc=> ?bt) λ hc=> ?bf
 case bt=>
  refine aI (bE.mp hc) λ TQ hhi=> ?_;rw[hc]at hq;obtain⟨q1,q2,q3⟩:=hb (by have:=of_decide_eq_true TQ;omega)
  exact cn (by rw[hc];rfl) (J_ hg h1 h2 h3 q1 q2 q3 (of_decide_eq_true TQ) (of_decide_eq_true hhi) hq)
 case bf=>
  rw[hc]at hq;refine bN (by rw[hc];rfl) ?_
  unfold oj at TV;rw[←hq]at TV;exact TV _
theorem J'(hg:aV l a e)(hl:l.length<=500000)(TV:oj l a e Q R)(x:Int×List (List Nat))(hx:ly l a e x):
  aV l x.1 e/\cond (W_ (aq l x.1 e 0=34)) (bq x.2+x.2.length<=1048576/\Q (.st x.2.flatten) (aY l (cQ l x.1 e) e))
   (cond (W_ (aq l x.1 e 0=92)) (aV l (cQ l x.1 e) e/\cond (!fX (aq l (cQ l x.1 e) e 0) [34,92]) (R 2 (jw (aY l (cQ l (cQ l x.1 e) e) e) 2 tE (cQ l x.1 e))) (lu l e (ly l a e) (lz e) R x (aq l (cQ l x.1 e) e 0) (cQ l (cQ l x.1 e) e) (cQ l x.1 e)))
    (lu l e (ly l a e) (lz e) R x (aq l x.1 e 0) (cQ l x.1 e) x.1)):=by
 revert hx;refine uV λ h1 h2 h3 h4 n hn hq=> ?_;have hgx:aV l x.1 e:=⟨hg.1,by have:=hg.2.1;exact Int.le_trans ‹_› ‹_›,hg.2.2⟩
 refine⟨hgx, ?_⟩;induction n with
 | zero=>exact absurd ‹_› (jH _)
 | succ n=>
 rw[zg]at hq;have up:∀b,0<=aq l b e 0->cQ l b e=b+1:=λ b h=>if_pos h;cases c1:W_ (aq l x.1 e 0=34) with
 | true=>
  have hp:=of_decide_eq_true c1;rw[c1]at hq;have hup:=up x.1 (by lia)
  have:=hg.1;have:=hg.2.2.1;have hin:=mA (l:=l) (b:=x.1) (e:=e) (by omega)
  refine⟨?_, ?_⟩
  ·rw[J9 h2]
   have:=hg.2.1;lia
  ·rw[hup];unfold oj at TV;rw[←hq]at TV;exact TV
 | false=>
  rw[c1]at hq;cases c2:W_ (aq l x.1 e 0=92) with
  | true=>
   have hp:=of_decide_eq_true c2;rw[c2]at hq;have hup:=up x.1 (by lia)
   have hin:=mA (l:=l) (b:=x.1) (e:=e) (by omega)
   rw[hup];refine⟨⟨hg.1,by have:=hg.2.1;lia,hg.2.2⟩, ?_⟩
   cases c3:fX (aq l (x.1+1) e 0) [34,92] with
   | false=>
    rw[c3]at hq;unfold oj at TV;rw[←hq]at TV;exact TV _
   | true=>
    rw[c3]at hq;have hd:aq l (x.1+1) e 0=34∨aq l (x.1+1) e 0=92:=by
     have c3:(W_ ((34:Int)=aq l (x.1+1) e 0) || (W_ ((92:Int)=aq l (x.1+1) e 0) || false))=W8:=c3
     rw[Bool.or_false,Bool.or_eq_true]at c3;exact c3.imp (λ h=>(of_decide_eq_true h).symm) λ h=>(of_decide_eq_true h).symm
    have WH:0<=aq l (x.1+1) e 0:=by grind
    have hin2:=mA WH;refine cn rfl (zh hg h1 h2 h3 (λ _=> ?_) TV (n:=n) ?_)
    ·rw[up _ WH]
     exact⟨by lia,by lia,i7 (hU (b:=x.1) (by lia) (by lia)) (Nat.le_of_lt_succ hn)⟩
    ·rw[up _ WH]
     have:(W_ (32<=aq l (x.1+1) e 0) && W_ (aq l (x.1+1) e 0<127))=W8:=by
      rw[decide_eq_true (by lia),decide_eq_true (by omega)];rfl
     rw[this,show x.1+1+1=x.1+2 by(exact lO _ _ _)]
     exact hq
  | false=>
   rw[c2]at hq;refine zh hg h1 h2 h3 (λ h=> ?_) TV (n:=n) ?_
   ·have hin:=mA h
    rw[up x.1 h];exact⟨by lia,by lia,i7 (hU (b:=x.1) (by lia) (by lia)) (Nat.le_of_lt_succ hn)⟩
   ·cases c4:(W_ (32<=aq l x.1 e 0) && W_ (aq l x.1 e 0<127)) with
    | true=>
     rw[c4]at hq;rw[up x.1 (by have:=of_decide_eq_true (bE.mp c4).1;omega)]
     exact hq
    | false=>rw[c4]at hq;exact hq
theorem Ka:fH w 265 (ck vE) (fB (tp 31)):=cA rfl
theorem Kb:aX w mg mb 3 (aN [(71,iB),(110,oi)]):= (aX.nil.cons tr rfl (by kernel_rfl)).cons lp rfl (by kernel_rfl)
theorem zi:bx w mg mb 265 tF:=by
 refine cI (n:=40) (bud:=3) Kb (ba _) Ka (by kernel_rfl) cH λ args objs Q R h=> ?_
 apply dQ h;intro r h1;apply cg h1;intro h2;apply fY h2;intro l a e;refine du λ hg hl TV=> ?_;refine⟨_,fv (λ _=>W6 (lq l e (ly l a e) (lz e))) .ss,cT ["cursor"] (by kernel_rfl) (d8 λ v=>rfl),J8 (ly l a e) (lz e) ⟨gg _,(λ _ h=>nomatch h), ?_, .inl rfl,_,ic _,rfl⟩ (J' hg hl TV)⟩
 show ((0:Nat):Int)<=a - a;simp
end
end
section
open PySem.Calls
section
variable{w:aQ}{mg mb:Tm}{l cs:Ln}{a e i:Int}{q:ab}{Q:Tq}{R:Tr}
noncomputable def lA(l cs:Ln)(a e:Int):eS:=⟨Int,λ x=>⟨[("first", .num a),("codes", .by_ cs),("self", .ob 0)],aY l x e⟩,λ _ x=>a<=x/\(x<=e∨x=a)/\∀j,a<=j->j<x->eg (l.getD j.toNat 0) cs=W8,λ x=>(e - x).toNat⟩
theorem Kc(h:∀x∈l,x<256)(i:Nat):l.getD i 0<256:=by
 rw[dX];cases q:l[i]? with
 | none=>exact Nat.zero_lt_succ _
 | some x=>exact h x (dH q)
theorem Kd(hg:aV l a e)(hq:∀b,TW l cs a e b->Q (.by_ ((l.take b.toNat).drop a.toNat)) (aY l b e)):
  aL (aN []) (cU (fS (mt 8 6)) 2 W9 q (fv (λ _=>W6 (lA l cs a e)) .vs)) 40 (fB (mt 8 6)) ⟨[("codes", .by_ cs),("self", .ob 0)],aY l a e⟩ (bg 2 Q) (λ k σ=>bL 2 k σ.objs R):=by
 refine cb (?_:((∃x:Int,l=l/\a=x/\e=e/\a=a/\cs=cs/\(lA l cs a e).ok 0 x)/\∀x:Int,(lA l cs a e).ok 0 x->cond (W_ (x<e)) (l.length<=1048576/\0<=x/\x<l.length/\(0:Int)<=(l.getD (au x) 0:Nat)/\((l.getD (au x) 0:Nat):Int)<256/\
   cond (eg ((l.getD (au x) 0:Nat):Int).toNat cs) (∃y:Int,l=l/\x+1=y/\e=e/\a=a/\cs=cs/\(lA l cs a e).ok 0 y/\(lA l cs a e).μ y<(lA l cs a e).μ x)
    (bB (W6 a) (W6 x) l.length/\Q (.by_ ((l.take (au x)).drop a.toNat)) (aY l x e)))
   (bB (W6 a) (W6 x) l.length/\Q (.by_ ((l.take (au x)).drop a.toNat)) (aY l x e)))=_) ?_
 ·kernel_rfl
 ·revert hg
  refine fq λ h1 h2 h3 h4=> ?_;refine⟨⟨a,rfl,rfl,rfl,rfl,rfl,gg _, .inr rfl,λ j q1 q2=>absurd q1 (Int.not_le.mpr q2)⟩,λ x hx=> ?_⟩;revert hx;refine du λ k1 k2 k3=> ?_;have k0:0<=x:=Int.le_trans h2 k1
  by_cases c:x<e
  ·rw[decide_eq_true c]
   have hb:=Kc h4 (au x);refine⟨h1,k0,Int.lt_of_lt_of_le c h3,eV _,by exact kA.mpr ‹_›, ?_⟩
   cases m:eg ((l.getD (au x) 0:Nat):Int).toNat cs with
   | true=>
    refine⟨x+1,rfl,rfl,rfl,rfl,rfl,⟨by lia, .inl (by assumption),λ j q1 q2=> ?_⟩, ?_⟩
    ·by_cases q:j<x
     ·exact k3 j q1 q
     ·obtain rfl:j=x:=by lia
      exact m
    ·exact hU (by lia) (by lia)
   | false=>exact⟨k_ h2 k0 h1,hq x ⟨k1,k2,k3,λ _=>m⟩⟩
  ·rw[decide_eq_false c]
   exact⟨k_ h2 k0 h1,hq x ⟨k1,k2,k3,λ q=>absurd q c⟩⟩
theorem Ke:fH w 131 (ck vr) (fB (mt 8 6)):=cA rfl
theorem Kf:bx w mg mb 131 qr:=by
 refine cI (n:=40) (bud:=0) aX.nil (ba _) Ke (by kernel_rfl) cH λ args objs Q R h=> ?_
 apply dQ h;intro r h1;apply cJ h1;intro v r h2;apply cg h2;intro h3;apply iX h3;intro v h4;apply fY h4;intro l a e h5;exact⟨_,fv (λ _=>W6 (lA l v a e)) .vs,cT ["self", "codes"] (by kernel_rfl) (fK λ v v'=>rfl),Kd h5.1 h5.2⟩
theorem zj(i:Nat):aq l (a+i) e 0=aq l a e i:=by unfold aq;rw[gf]
theorem tG(h:dz (aq l a e x)=W8):a+x<e/\aq l a e x=l.getD (a+x).toNat 0/\0<=aq l a e x:=by
 unfold dz at h;refine aI (bE.mp h) λ h1 _=> ?_;have h1:=of_decide_eq_true h1;unfold aq at h1 ⊢
 split at h1
 ·rename_i c
  rw[if_pos c];exact⟨c.2,rfl,eV _⟩
 ·contradiction
theorem Kg(x:Int):IntMulOk x 10:=by
 unfold IntMulOk;have:W_ (Builtin.Int.intBits 10>shortFactorBits)=W9:=by decide+kernel
 rw[this];intro h;simp at h
noncomputable def mB(l:Ln)(a e:Int):eS:=⟨Nat,λ c=>⟨[("count", .num c),("self", .ob 0)],aY l a e⟩,λ _ x=>∀j:Nat,j<x->dz (aq l a e j)=W8,λ x=>(e - a - x).toNat⟩
noncomputable def om(l:Ln)(a e:Int):eS:=⟨Int×Int,λ x=>⟨[("number", .num x.1),("self", .ob 0)],aY l x.2 e⟩,λ i x=>x.2=a+i/\x.1=jg l a i,λ _=>0⟩
noncomputable def zk(l:Ln)(a e:Int)(k:Nat):Option eS:=match aO k 61008 with
 | true=>W6 (mB l a e)
 | false=>W6 (om l a e)
theorem Kh(hg:aV l a e)(hq:∀c,DG l a e c->cond (W_ (0<c) && W_ (c<=20)) (Q (.num (jg l a c)) (aY l (a+c) e)) (Q .non (aY l a e))):
  aL (aN [(103,lh),(110,oi)]) (cU (fS (mt 8 8)) 2 W8 q (fv (zk l a e) .vs)) 40 (fB (mt 8 8)) ⟨[("self", .ob 0)],aY l a e⟩ (bg 2 Q) (λ k σ=>bL 2 k σ.objs R):=by
 refine cb (?_:((∃x:Nat,l=l/\a=a/\e=e/\(0:Int)=x/\(mB l a e).ok 0 x)/\∀x:Nat,(mB l a e).ok 0 x->aV l a e/\cond (dz (aq l a e x)) (∃y:Nat,l=l/\a=a/\e=e/\(x:Int)+1=y/\(mB l a e).ok 0 y/\(mB l a e).μ y<(mB l a e).μ x)
  (cond (!(W_ (0<(x:Int)) && W_ ((x:Int)<=20))) (Q .non (aY l a e)) (0<=(x:Int)/\(x:Int)<=1048576/\(x:Int).toNat<=1048576/\(∃z:Int×Int,l=l/\a=z.2/\e=e/\0=z.1/\(om l a e).ok 0 z)/\
   (∀(i:Nat) (y:Int×Int),i<(x:Int).toNat->(om l a e).ok i y->IntMulOk y.1 10/\aV l y.2 e/\∃z:Int×Int,l=l/\(if 0<=aq l y.2 e 0 then y.2+1 else y.2)=z.2/\e=e/\y.1*10+aq l y.2 e 0 - 48=z.1/\(om l a e).ok (i+1) z)/\
   ∀y:Int×Int,(om l a e).ok (x:Int).toNat y->Q (.num y.1) (aY l y.2 e))))=_) ?_
 ·kernel_rfl
 ·refine⟨⟨0,rfl,rfl,rfl,rfl,λ j hj=>absurd hj (jH _)⟩,λ x hx=>⟨hg, ?_⟩⟩
  cases m:dz (aq l a e x) with
  | true=>
   refine⟨x+1,rfl,rfl,rfl,rfl,λ j hj=> ?_, ?_⟩
   ·by_cases q:j<x
    ·exact hx j q
    ·obtain rfl:j=x:=by lia
     exact m
   ·have:= (tG m).1
    exact hU (by lia) (by lia)
  | false=>
   have hd:=hq x ⟨hx,m⟩;rw[show (W_ (0<(x:Int)) && W_ ((x:Int)<=20))= (W_ (0<x) && W_ (x<=20)) by rw[show W_ (0<(x:Int))=W_ (0<x) from decide_eq_decide.mpr kA,show W_ ((x:Int)<=20)=W_ (x<=20) from decide_eq_decide.mpr kB]]
   cases c2:(W_ (0<x) && W_ (x<=20)) with
   | true=>
    have c:=bE.mp c2;have c3:=of_decide_eq_true c.1;have c4:=of_decide_eq_true c.2;rw[c2]at hd;refine⟨eV _,by lia,by lia,⟨(0,a),rfl,rfl,rfl,rfl,by show a=a+((0:Nat):Int);lia,rfl⟩,λ i y hi hy=> ?_,λ y hy=> ?_⟩
    ·obtain⟨y1,y2⟩:=y
     revert hy;refine bF λ e2 e1=> ?_;simp only at e1 e2;subst e1 e2;have hi':i<x:=by simpa using hi
     refine cE (tG (hx i hi')) λ f1 f2 f3=> ?_;revert hg;refine fq λ g1 g2 g3 g4=> ?_;refine⟨Kg _,⟨g1,by lia,g3,g4⟩,(jg l a i*10+aq l a e i - 48,a+i+1),rfl, ?_,rfl, ?_, ?_, ?_⟩
     ·rw[zj,if_pos f3]
     ·rw[zj]
     ·show a+i+1=a+((i+1:Nat):Int);push_cast;exact lO _ _ _
     ·show _=jg l a i*10+_ - 48
      rw[f2]
    ·obtain⟨y1,y2⟩:=y
     revert hy;refine bF λ e2 e1=> ?_;simp only at e1 e2;subst e1 e2;exact hd
   | false=>
    rw[c2]at hd;exact hd
theorem G3:aX w mg mb 2 (aN [(103,lh),(110,oi)]):= (aX.nil.cons tr rfl (by kernel_rfl)).cons qs rfl (by kernel_rfl)
theorem Ki:fH w 145 (ck vt) (fB (mt 8 8)):=cA rfl
theorem Kj:bx w mg mb 145 y_:=by
 refine cI (n:=40) (bud:=2) G3 (ba _) Ki (by kernel_rfl) cH λ args objs Q R h=> ?_
 apply dQ h;intro r h1;apply cg h1;intro h3;apply fY h3;intro l a e h5;exact⟨_,fv (zk l a e) .vs,cT ["self"] (by kernel_rfl) (d8 λ v=>rfl),Kh h5.1 h5.2⟩
end
end
section
open PySem.Calls
section
variable{w:aQ}{mg mb:Tm}{l v:Ln}{a e i:Int}{q:ab}{Q:Tq}{R:Tr}
end
end
section
open PySem.Calls
noncomputable def bT{α:Type}(f:Nat->α):Nat->List α
 | 0=> []
 | i+1=>bT f i++ [f i]
theorem Kk:bT f (i+1)=bT f i++ [f i]:=rfl
noncomputable def oo(os:La)(f:Nat->List Nat):nv:=⟨List (List Nat),λ _=>os,λ y=> .lstS y,λ i y=>y=bT f i⟩
noncomputable def zl(os:La)(f:Nat->Int):nv:=⟨List Int,λ _=>os,λ y=> .lstI y,λ i y=>y=bT f i⟩
noncomputable abbrev zm(f:Nat->AS->Nat->List Nat):fE:=⟨λ _=>W7,λ _=> .vs,λ k σ=>W6 (oo σ.objs (f k σ)),λ _ _=>W7,λ _=>W7,λ _=>0⟩
noncomputable def bI(c:Nat):Nat:=cond (W_ (97<=c) && W_ (c<=122)) (c - 32) c
noncomputable def Kl(v:Ln):eS:=⟨Unit,λ _=>⟨[("text", .st v)], []⟩,λ _ _=>True,λ _=>0⟩
noncomputable def zo(v:Ln):fE:=⟨λ _=>W6 (Kl v),λ _=> .vs,λ _ σ=>W6 (zl σ.objs λ i=>(v.getD i 0:Nat)),λ _ _=>W7,λ _=>W7,λ _=>0⟩
theorem Km{α β:Type}[Inhabited β]{g:β->α}{v:List β}{d:β}:∀n,n<=v.length->bT (λ i=>g (v.getD i d)) n= (v.take n).map g:=by
 intro n;induction n with
 | zero=>exact λ _=>rfl
 | succ n ih=>
  intro h;rw[Kk,ih (f_ h),List.take_succ,eJ];have hn:n<v.length:=h;rw[dX,bP hn];rfl
theorem oq{α β:Type}[Inhabited β]{g:β->α}{v:List β}{d:β}:bT (λ i=>g (v.getD i d)) v.length=v.map g:=by rw[Km _ (ba _),List.take_length]
theorem zp:∀{v:List β},(v.map λ c=> [g c]).flatten=v.map g:=by
 intro v;induction v with
 | nil=>
  exact rfl
 | cons x r ih=>
  show[g x]++(r.map λ c=> [g c]).flatten=g x::r.map g;rw[ih];rfl
theorem zt{g:Nat->Nat}:∀{v:Ln},bq (v.map λ c=> [g c])=v.length:=by
 intro v;induction v with
 | nil=>
  exact rfl
 | cons x r ih=>
  show 1+bq (r.map λ c=> [g c])=r.length+1;rw[ih,Nat.add_comm]
end
end Mine.Lake
open Mine.Lake.AV renaming non->W',bo->Xa,num->Xc,st->Xd,by_->Xe,ob->Xf
open Mine.Lake.AO renaming inst->Xg,dic->Xh,lst->Xi,tup->Xj,tupS->Xk,cel->Xl,exc->Xm,exd->Xn,cod->Xo,lam->Xp,tab->Xq,lstR->Xr
open PySem.Calls
namespace Mine.Lake
section
def Kn(l v:Ln)(a e i:Int)(q:ab)(Q:Tq)(R:Tr):Prop:=Q (Xa (W_ (48<=i) && W_ (i<=57))) []
theorem Ko{Q:Tq}{R:Tr}(h:Kn l v a e i q Q R):aL (aN []) (cU (fS (tp 25)) 0 W9 q aS) 40 (fB (tp 25)) ⟨[("code", .num i)], []⟩ (bg 0 Q) (λ k σ=>bL 0 k σ.objs R):=kq h
abbrev zu(v:Ln)(S':Nat)(y:Ll):Prop:=1=1/\0<=(↑(ay v S' 0):Int) - (32:Int)/\(↑(ay v S' 0):Int) - (32:Int)<=1114111/\∃(z:Ll),y++ [[au ((↑(ay v S' 0):Int) - (32:Int))]]=z/\z=bT (λ i=> [bI (ay v i 0)]) (S'+1)
abbrev zv(v:Ln)(S':Nat)(y:Ll):Prop:=bif iS [ay v S' 0] [122] then zu v S' y else ∃(z:Ll),y++ [[ay v S' 0]]=z/\z=bT (λ i=> [bI (ay v i 0)]) (S'+1)
abbrev zw(v:Ln)(S':Nat)(y:Ll):Prop:=bif iS [97] [ay v S' 0] then zv v S' y else ∃(z:Ll),y++ [[ay v S' 0]]=z/\z=bT (λ i=> [bI (ay v i 0)]) (S'+1)
def Kp(l v:Ln)(a e i:Int)(q:ab)(Q:Tq)(R:Tr):Prop:=aa v<=1048576/\(∃(y:Ll), []=y/\y= [])/\(∀(S':Nat) (y:Ll),S'<aa v->y=bT (λ i=> [bI (ay v i 0)]) S'->zw v S' y)/\∀(y:Ll),y=bT (λ i=> [bI (ay v i 0)]) (aa v)->bq y+aa y<=1048576/\Q (Xd (ae y)) []
theorem Kq{l v:Ln}{a e i:Int}{q:ab}{Q:Tq}{R:Tr}(h:Kp l v a e i q Q R):aL (aN []) (cU (fS (tp 11)) 0 W8 q (zm (λ _ _ i=> [bI (v.getD i 0)]))) 40 (fB (tp 11)) ⟨[("text", .st v)], []⟩ (bg 0 Q) (λ k σ=>bL 0 k σ.objs R):=kq h
abbrev Kr(v:Ln)(S':Nat):Prop:=aa v<=1048576/\0<=(↑S':Int)/\LT.lt (α:=Int) (↑S':Int) (aa v:Int)/\1=1/\bif W_ (127<(↑(ay v (au (↑S':Int)) 0):Int)) then False else ∃(z:PUnit.{1}),v=v/\True
abbrev Ks(v:Ln)(Q:Tq):Prop:=aa v<=1048576/\(∃(SS:List Int), []=SS/\SS= [])/\(∀(S':Nat) (SS:List Int),S'<aa v->SS=bT (λ i=>(↑(ay v i 0):Int)) S'->1=1/\∃(z:List Int),SS++ [(↑(ay v S' 0):Int)]=z/\z=bT (λ i=>(↑(ay v i 0):Int)) (S'+1))/\∀(SS:List Int),SS=bT (λ i=>(↑(ay v i 0):Int)) (aa v)->aa SS<=1048576/\(∀(x:Int),x∈SS->0<=x/\x<256)/\Q (Xe (dK au SS)) []
def Kt(l v:Ln)(a e i:Int)(q:ab)(Q:Tq)(R:Tr):Prop:=aa v<=1048576/\0<=(aa v:Int)/\(aa v:Int)<=1048576/\au (aa v:Int)<=1048576/\(∃(x:PUnit.{1}),v=v/\True)/\(∀(S':Nat) (y:PUnit.{1}),S'<au (aa v:Int)->True->Kr v S')/\∀(y:PUnit.{1}),True->Ks v Q
theorem Ku{l v:Ln}{a e i:Int}{q:ab}{Q:Tq}{R:Tr}(h:Kt l v a e i q Q R):aL (aN [(71,iB)]) (cU (fS (tp 13)) 0 W8 q (zo v)) 40 (fB (tp 13)) ⟨[("text", .st v)], []⟩ (bg 0 Q) (λ k σ=>bL 0 k σ.objs R):=kq h
abbrev dE(l:Ln)(a e:Int):AO:=.dic [("data",.by_ l),("at",.num a),("end",.num e)]
abbrev dC(l:Ln)(a:Int):AO:=.dic [("data",.by_ l),("at",.num a)]
abbrev dW(l:Ln)(a:Int):AO:=.dic [("what",.st l),("at",.num a)]
abbrev dS(a:Nat)(l:Ln)(b:Nat):AO:=.dic [("path",.ob a),("word",.st l),("names",.ob b),("partial",.non)]
abbrev cW:AO:=.cod "law.<locals>.<lambda>"
abbrev zx(l:Ln)(a e:Int)(R:Tr)(c:Nat):Prop:=R 2 [Xg 155 1,dE l (a+(↑c:Int)) e,Xm 3,Xh [("what",Xd [110,111,32,110,117,109,98,101,114,32,111,102,32,97,32,115,101,99,116,105,111,110]),("at",Xc a)]]
abbrev zy(l:Ln)(a e i:Int)(Q:Tq)(R:Tr)(c:Nat):Prop:=bif !(W_ (i<=jg l a c) && W_ (jg l a c<=4294967295)) then zx l a e R c else Q (Xc (jg l a c)) [Xg 155 1,dE l (a+(↑c:Int)) e]
abbrev Kv(l:Ln)(a e i:Int)(Q:Tq)(R:Tr)(c:Nat):Prop:=bif W_ (a+(↑c:Int)=a+1) then zy l a e i Q R c else aa l<=1048576/\0<=a/\a<(aa l:Int)/\bif !!W_ ((↑(ay l (au a) 0):Int)= 48) then zx l a e R c else zy l a e i Q R c
abbrev Kw(l:Ln)(a e:Int)(R:Tr):Prop:=R 2 [Xg 155 1,dE l a e,Xm 3,Xh [("what",Xd [110,111,32,110,117,109,98,101,114,32,111,102,32,97,32,115,101,99,116,105,111,110]),("at",Xc a)]]
def Kx(l v:Ln)(a e i:Int)(q:ab)(Q:Tq)(R:Tr):Prop:=aV l a e/\∀(c:Nat),DG l a e c->bif W_ (0<c) && W_ (c<=20) then Kv l a e i Q R c else Kw l a e R
theorem Ky(h:Kx l v a e i q Q R):aL (aN [(71,iB),(145,y_)]) (ze (fS (tp 24)) q) 40 (fB (tp 24)) ⟨[("least", .num i),("cursor", .ob 0)],aY l a e⟩ (bg 2 Q) (λ k σ=>bL 2 k σ.objs R):=kq h
end
def iY{α:Type}(l:List α)(P:Prop):Prop:=match l with
 | []=>P
 | _::_=>False
theorem Kz(h:iY l P):l= []/\P:=by
 induction l with
 | nil=>exact⟨rfl,h⟩
 | cons a r=>exact h.elim
theorem jx{α:Type}{l:List α}{P:Prop}{M:List α->Prop}(h:iY l P)(k:P->M ([])):M l:=by
 obtain⟨rfl,q⟩:=Kz h;exact k q
noncomputable def e_(os:La)(n:Nat)(m:Ln)(i:Int):List AO:=os++ [.exc (n+1), .dic [("what", .st m),("at", .num i)]]
noncomputable def hZ(_:List AV)(_:La):List Nat:= []
noncomputable def zz:aH:=⟨hZ,λ as os Q _=>cz as λ v r=>bM r (gq v λ i=>iY os (Q (.bo (dz i)) [])),1, [],W9⟩
noncomputable def mC:aH:=⟨hZ,λ as os Q _=>cz as λ v r=>bM r (iz v λ v=>iY os (v.length<=500000/\(∀c∈v,c<=1114111)/\Q (.st (v.map bI)) [])),1, [],W8⟩
noncomputable def tH:aH:=⟨hZ,λ as os Q _=>cz as λ v r=>bM r (iz v λ v=>iY os (v.length<=500000/\(∀c∈v,c<=127)/\Q (.by_ v) [])),5, [],W8⟩
noncomputable def zA:aH:=⟨dV,λ as os Q _=>dm as λ r=>cz r λ v r=>bM r (gq v λ i=>eZ os λ l a e=>aV l a e/\dz (aq l a e 0)=W8/\dz (aq l a e 1)=W9/\48<aq l a e 0/\i<=aq l a e 0 - 48/\Q (.num (aq l a e 0 - 48)) (aY l (a+1) e)),5, [],W8⟩
section
variable{w:aQ}{mg mb:Tm}{l v:Ln}{a e i:Int}{Q:Tq}{R:Tr}
theorem KA:fH w 239 (ck vB) (fB (tp 25)):=cA rfl
theorem KB:bx w mg mb 239 zz:=by
 refine cI (n:=40) (bud:=0) aX.nil (ba _) KA (by kernel_rfl) cH λ args objs Q R h=> ?_
 apply cJ h;intro v r h1;apply cg h1;intro h2;apply j3 h2;intro i h3;apply jx h3;intro h4;exact⟨_,aS,cT ["code"] (by kernel_rfl) (d8 λ v=>rfl),Ko (l:= []) (v:= []) (a:=0) (e:=0) h4⟩
theorem mD{v:Ln}{P:Nat->Prop}(h:∀c∈v,P c){i:Nat}(hi:i<v.length):P (v.getD i 0):=by
 rw[dX,bP hi];exact h _ (m_ hi)
theorem zB{c b:Nat}:iS [c] [b]=W_ (c<=b):=by
 rw[xn]
 by_cases h:c<b
 ·have:dT c b=W8:=by simpa[gh] using h
  rw[this,decide_eq_true (f_ h)]
 ·have h1:dT c b=W9:=by cases q:dT c b with
   | false=>rfl
   | true=>exact absurd (by simpa[gh] using q) h
  rw[h1]
  by_cases e:c=b
  ·subst e
   rw[show aO c c=W8 from jl c,decide_eq_true (ba c)];rfl
  ·have:aO c b=W9:=by cases q:aO c b with
    | false=>rfl
    | true=>exact absurd (dc q) e
   rw[this,decide_eq_false (by lia)];rfl
theorem KC:fH w 176 (ck vu) (fB (tp 11)):=cA rfl
theorem tI:bx w mg mb 176 mC:=by
 refine cI (n:=40) (bud:=0) aX.nil (ba _) KC (by kernel_rfl) cH λ args objs Q R h=> ?_
 apply cJ h;intro v r h1;apply cg h1;intro h2;apply jf h2;intro v h3;apply jx h3;refine du λ hl hc hq=> ?_;refine⟨_,zm (λ _ _ i=> [bI (v.getD i 0)]),cT ["text"] (by kernel_rfl) (d8 λ v=>rfl),Kq (l:= []) (v:=v) (a:=0) (e:=0) (i:=0) ⟨by lia,⟨[],rfl,rfl⟩,λ i y hi hy=> ?_,λ y hy=> ?_⟩⟩
 ·subst hy
  have hb:=mD hc hi;delta zw;delta zv;delta zu
  generalize hx:v.getD i 0=c at hb
  rw[zB,zB];have e:bT (λ i=> [bI (v.getD i 0)]) (i+1)=bT (λ i=> [bI (v.getD i 0)]) i++ [[bI c]]:=by rw[←hx];rfl
  by_cases c1:97<=c
  ·by_cases c2:c<=122
   ·rw[decide_eq_true c1,decide_eq_true c2]
    refine⟨rfl, ?_, ?_,_,rfl, ?_⟩
    ·show (0:Int)<=(c:Int) - 32;lia
    ·show (c:Int) - 32<=1114111;lia
    ·rw[e]
     show _++ [[((c:Int) - 32).toNat]]=_;unfold bI;rw[decide_eq_true c1,decide_eq_true c2];show _++ [[((c:Int) - 32).toNat]]=_++ [[c - 32]];rw[show ((c:Int) - 32).toNat=c - 32 from Int.toNat_sub c 32]
   ·rw[decide_eq_true c1,decide_eq_false c2]
    refine⟨_,rfl, ?_⟩;rw[e];unfold bI;rw[decide_eq_false c2,Bool.and_false];rfl
  ·rw[decide_eq_false c1]
   refine⟨_,rfl, ?_⟩;rw[e];unfold bI;rw[decide_eq_false c1];rfl
 ·rw[oq (g:=λ c=> [bI c])]at hy
  subst hy;refine⟨?_, ?_⟩
  ·rw[zt,dq];lia
  ·rw[zp];exact hq
theorem KD:aX w mg mb 4 (aN [(71,iB)]):=aX.nil.cons lp rfl (by kernel_rfl)
theorem KE:fH w 186 (ck vx) (fB (tp 13)):=cA rfl
theorem KF:bx w mg mb 186 tH:=by
 refine cI (n:=40) (bud:=4) KD (ba _) KE (by kernel_rfl) cH λ args objs Q R h=> ?_
 apply cJ h;intro v r h1;apply cg h1;intro h2;apply jf h2;intro v h3;apply jx h3;refine du λ hl hc hq=> ?_;refine⟨_,zo v,cT ["text"] (by kernel_rfl) (d8 λ v=>rfl),Ku (l:= []) (v:=v) (a:=0) (e:=0) (i:=0) ⟨by lia,by exact eV _,by lia,by lia,⟨(),rfl,trivial⟩,λ i y hi _=> ?_,λ y _=>⟨by lia,⟨[],rfl,rfl⟩,λ i y hi hy=> ?_,λ y hy=> ?_⟩⟩⟩
 ·have hi':i<v.length:=by assumption
  have hb:=mD hc hi';refine⟨by lia,by exact eV _,by exact kA.mpr ‹_›,rfl, ?_⟩
  refine cn (decide_eq_false ?_) ⟨(),rfl,trivial⟩;show ¬ (127:Int)<((v.getD i 0:Nat):Int);lia
 ·subst hy
  exact⟨rfl,_,rfl,rfl⟩
 ·rw[oq (g:=λ c:Nat=>(c:Int))]at hy
  subst hy;refine⟨by rw[dq];lia,λ x hx=> ?_, ?_⟩
  ·refine aj (cZ.mp hx) λ c Wb zq2=> ?_
   subst zq2;have:=hc c Wb;lia
  ·rw[List.map_map]
   have:v.map (au ∘ λ c:Nat=>(c:Int))=v:=by
    rw[show (au ∘ λ c:Nat=>(c:Int))=id from funext λ c=>Int.toNat_natCast c,List.map_id]
   rw[this];exact hq
theorem KG(h0:dz (aq l a e 0)=W8)(h1:dz (aq l a e 1)=W9)(h:DG l a e c):c=1:=by
 revert h;refine bF λ h2 h3=> ?_
 match c,h2,h3 with
 | 0,_,h3=>rw[show ((0:Nat):Int)=0 from rfl,h0]at h3;contradiction
 | 1,_,_=>rfl
 | c+2,h2,_=>
  have:=h2 1 (by exact Nat.le_add_left _ _)
  rw[show ((1:Nat):Int)=1 from rfl,h1]at this;contradiction
theorem KH:bx w mg mb 232 zA:=by
 refine cI (n:=40) (bud:=4) ((aX.nil.cons Kj rfl (by kernel_rfl)).cons lp rfl (by kernel_rfl)) (ba _) (fd:=ck vA) (body:=fB (tp 24)) (cA rfl) (by kernel_rfl) cH λ args objs Q R h=> ?_
 apply dQ h;intro r h1;apply cJ h1;intro v r h2;apply cg h2;intro h3;apply j3 h3;intro i h4;apply fY h4;intro l a e;refine uU λ hg f0 f1 hz hle hq=> ?_;refine⟨_,aS,cT ["cursor", "least"] (by kernel_rfl) (fK λ v v'=>rfl),Ky (v:= []) ⟨hg,λ c hc=> ?_⟩⟩
 obtain rfl:=KG f0 f1 hc;refine cE (tG (x:=0) f0) λ g1 g2 g3=> ?_;have e1:jg l a 1=aq l a e 0 - 48:=by
  show 0*10+((l.getD (a+((0:Nat):Int)).toNat 0:Nat):Int) - 48=_;rw[show aq l a e 0=_ from g2];lia
 have hf:aq l a e 0<=57:=by
  unfold dz at f0;exact of_decide_eq_true (bE.mp f0).2
 refine bN rfl (bN (decide_eq_true rfl) (cn ?_ ?_))
 ·rw[e1,decide_eq_true hle,decide_eq_true (by lia)];rfl
 ·rw[e1];exact hq
end
end Mine.Lake
open PySem.Calls
namespace Mine.Lake
noncomputable abbrev qt(n:Nat):fE:=⟨λ _=>W7,λ _=> .vs,λ _ _=>W7,λ _ _=>W7,λ _=>W7,λ _=>n⟩
noncomputable def jy:Option (Int×Int)->List AV
 | none=> []
 | some p=> [.num p.1, .num p.2]
noncomputable def tJ(o:AO):Option (List AV):=if h:o.ctorIdx=5 then AO.tup.elim o h (λ l=>W6 l) else W7
theorem zC(h:tJ o=W6 x):o= .tup x:=
 cv (dn h) λ hc h=>AO.tup.elim (motive:=λ o=>∀hc:o.ctorIdx=5,(AO.tup.elim o hc λ l=>W6 l:Option (List AV))=W6 x->o= .tup x) o hc (λ l _ h=>congrArg Xj (bQ h)) hc h
def tK(l:List AV)(f:Option (Int×Int)->Prop):Prop:=match l with
 | []=>f W7
 | x::r=>fu r λ y r=>hX r (gq x λ i=>gq y λ j=>f (W6 (i,j)))
theorem zD(h:tK l f):∃p,l=jy p/\f p:=by
 induction l with
 | nil=>exact⟨W7,rfl,h⟩
 | cons x r=>
  refine cY (fJ h) λ y r2 e1 h=> ?_;refine aI (iA h) λ e2 h=> ?_;refine aj (mx h) λ i e3 h=> ?_;refine aj (mx h) λ j e4 h=> ?_;exact⟨W6 (i,j),by rw[e1,e2,e3,e4];rfl,h⟩
def tM(os:La)(f:List Nat->Int->Int->Option (Int×Int)->Prop):Prop:=fu os λ o1 r=>fu r λ o2 r=>fu r λ o3 r=>hX r (aJ (tJ o3) λ l=>tK l λ p=>eZ [o1,o2] λ l a e=>f l a e p)
theorem KI{os:La}{f:List Nat->Int->Int->Option (Int×Int)->Prop}(h:tM os f):∃l a e o,os=aY l a e++ [.tup (jy o)]/\f l a e o:=by
 refine cY (fJ h) λ o1 r e1 h=> ?_;refine cY (fJ h) λ o2 r2 e2 h=> ?_;refine cY (fJ h) λ o3 r3 e3 h=> ?_;refine aI (iA h) λ e4 h=> ?_;refine aj (bw h) λ t e5 h=> ?_;refine aj (zD h) λ p e6 h=> ?_;refine jL (y9 h) λ l a e e7 h=> ?_;refine⟨l,a,e,p, ?_,h⟩;rw[←e7,e1,e2,e3,e4,zC e5,e6];rfl
theorem KJ{os:La}{f:List Nat->Int->Int->Option (Int×Int)->Prop}{M:List AO->Prop}(h:tM os f)(k:∀l a e o,f l a e o->M (aY l a e++ [.tup (jy o)])):M os:=by
 obtain⟨l,a,e,o,rfl,q⟩:=KI h;exact k l a e o q
def fb(k:Nat)(v:AV)(P:Prop):Prop:=match v with
 | .ob j=>aG (aO j k) P
 | _=>False
theorem zE(h:fb k v P):v= .ob k/\P:=by
 induction v with
 | ob j=>
  refine aI (bA h) λ h1 h2=> ?_;rw[dc h1];exact⟨rfl,h2⟩
 | _=>exact h.elim
theorem fZ{M:AV->Prop}(h:fb k v P)(k:P->M (.ob k)):M v:=by
 obtain⟨rfl,q⟩:=zE h;exact k q
def tN(v:AV)(P:Prop):Prop:=match v with
 | .non=>P
 | _=>False
theorem KL(h:tN v P):v= .non/\P:=by
 induction v <;> first | exact⟨rfl,h⟩ | exact h.elim
theorem KM{M:AV->Prop}(h:tN v P)(k:P->M (.non)):M v:=by
 obtain⟨rfl,q⟩:=KL h;exact k q
noncomputable def KN(args:List AV)(objs:La):List Nat:=match args with
 | .ob k:: .ob p::_=>match objs[k]? with
  | some (.inst _ d)=> [k,d,p]
  | _=> []
 | _=> []
noncomputable def j5:List Nat:= ("ABCDEFGHIJKLMNOPQRSTUVWXYZabcdefghijklmnopqrstuvwxyz." :ab).cps.toList
noncomputable def j6:List (List Nat):= [("HEADER" :ab).cps.toList,("TEXT" :ab).cps.toList,("MIME" :ab).cps.toList,("HEADER.FIELDS" :ab).cps.toList,("HEADER.FIELDS.NOT" :ab).cps.toList]
noncomputable def a_(l:Ln)(a b:Int):List Nat:= (l.take b.toNat).drop a.toNat
theorem bx.weaken(S:bx w mg mb f c)(hb:c.bud=c'.bud)(hp:c.pins=c'.pins)(hc:c.calm=c'.calm)(h:∀as os Q R,c'.spec as os Q R->c.spec as os Q R):bx w mg mb f c':=
 λ D ads objs args vals s Q R h1 h2 h3 h4 h5 h6 h7=>S D ads objs args vals s Q R (hb ▸ h1) (hc ▸ h2) (hp ▸ h3) h4 h5 h6 (h _ _ _ _ h7)
noncomputable def tO:aH:=⟨dV,λ as os Q _=>dm as λ r=>bM r (eZ os λ l a e=>aV l a e/\0<=aq l a e 0/\Q (.num (aq l a e 0)) (aY l (a+1) e)),2, [],W9⟩
theorem zF:bx w mg mb 110 tO:=tr.weaken rfl rfl rfl λ as os Q R h=>by
 apply dQ h;intro r h;apply cg h;intro h;apply fY h;intro l a e;refine du λ h1 h2 h3=> ?_;refine(⟨h1, ?_⟩:aV l a e/\Q (.num (aq l a e 0)) (aY l (if 0<=aq l a e 0 then a+1 else a) e))
 rw[if_pos h2];exact h3
noncomputable def tP:aH:=⟨dV,λ as os Q _=>dm as λ r=>bM r (eZ os λ l a e=>aV l a e/\cond (dz (aq l a e 0))
 (aq l a e 0=49/\aq l a e 1=46/\aq l a e 2=50/\aq l a e 3=46/\dz (aq l a e 4)=W9/\Q (.ob 2) (aY l (a+3) e++ [.tup [.num 1, .num 2]]))
 (Q (.ob 2) (aY l a e++ [.tup []]))),6, [],W8⟩
noncomputable def dG(a:Int):Option (Int×Int)->Int
 | none=>a
 | some _=>a+1
noncomputable def tQ:aH:=⟨KN,λ as os Q _=>dm as λ r=>cz r λ v r=>bM r (fb 2 v (tM os λ l a e o=>aV l a e/\bl l a e [93]=W9/\(o=W7∨bl l a e [46]=W8)/\
 ∃b,TW l j5 (dG a o) e b/\cw ((a_ l (dG a o) b).map bI) j6=W8/\aR ((a_ l (dG a o) b).map bI) ("MIME" :ab).cps.toList=W9/\(a_ l (dG a o) b).length<=500000/\Q (.st ((a_ l (dG a o) b).map bI)) (aY l b e++ [.tup (jy o)]))),6, [],W8⟩
noncomputable abbrev tR(r:Nat->AS->AV):fE:=⟨λ _=>W7,λ _=> .vs,λ k σ=>(match r k σ with
 | .by_ x=>W6 (oo σ.objs λ i=> [x.getD i 0])
 | _=>W7),λ _ _=>W7,λ _=>W7,λ _=>0⟩
noncomputable def KO(σ:AS):AV:=match σ.loc.lookup ("first" :ab) with
 | some (.num f)=>match σ.objs with
  | _:: .dic [(_, .by_ l),(_, .num b),_]::_=> .by_ ((l.take b.toNat).drop f.toNat)
  | _=> .non
 | _=> .non
noncomputable abbrev qu:fE:=tR λ _ σ=>KO σ
noncomputable def zG:aH:=⟨dV,λ as os Q R=>dm as λ r=>bM r (eZ os λ l a e=>aV l a e/\l.length<=500000/\aq l a e 0=34/\
 cond (bb l (a+1) e).ok (Q (.st (bb l (a+1) e).acc) (aY l (bb l (a+1) e).place e)) (∀m,R 2 (e_ (aY l (bb l (a+1) e).place e) 2 m (bb l (a+1) e).spot))),5, [],W8⟩
structure eB where
 ok:Bool
 names:List (List Nat)
 place:Int
 spot:Int
inductive NM (l:Ln) (e:Int):Int->List (List Nat)->eB->Prop
 | bad {b acc}:aq l b e 0=34->(bb l (b+1) e).ok=W9->NM l e b acc ⟨W9,acc,(bb l (b+1) e).place,(bb l (b+1) e).spot⟩
 | one {b acc}:aq l b e 0=34->(bb l (b+1) e).ok=W8->aq l (bb l (b+1) e).place e 0≠32->NM l e b acc ⟨W8,acc++ [(bb l (b+1) e).acc],(bb l (b+1) e).place,0⟩
 | more {b acc r}:aq l b e 0=34->(bb l (b+1) e).ok=W8->aq l (bb l (b+1) e).place e 0=32->NM l e ((bb l (b+1) e).place+1) (acc++ [(bb l (b+1) e).acc]) r->NM l e b acc r
noncomputable def tS:aH:=⟨dV,λ as os Q R=>dm as λ r=>bM r (eZ os λ l a e=>aV l a e/\l.length<=500000/\bl l a e [32]=W8/\bl l (a+1) e [40]=W8/\∃r,NM l e (a+2) [] r/\
 cond r.ok (bl l r.place e [41]=W8/\r.names.length<=500000/\Q (.ob 2) (aY l (r.place+1) e++ [.tupS r.names])) (∀m,R 2 (e_ (aY l r.place e) 2 m r.spot))),6, [],W8⟩
noncomputable def zH(l:Ln)(e:Int)(OK:Int×List (List Nat)->Prop)(MU:Int×List (List Nat)->Nat):eS:=⟨Int×List (List Nat),λ x=>⟨[("found", .ob 2),("cursor", .ob 0)],aY l x.1 e++ [.lstS x.2]⟩,λ _ x=>OK x,MU⟩
noncomputable def tT:aH:=⟨dV,λ as os Q R=>dm as λ r=>bM r (eZ os λ l a e=>aV l a e/\bl l a e [60]=W9/\Q .non (aY l a e)),6, [],W8⟩
end Mine.Lake
open PySem.Calls
namespace Mine.Lake
section
abbrev zI(l:Ln)(a e:Int)(Q:Tq):Prop:=2<=1048576/\Q (Xf 2) [Xg 155 1,dE l (a+1+1+1) e,Xj [Xc (aq l a e (0:Int) - (48:Int)),Xc (aq l (a+1+1) e (0:Int) - (48:Int))]]
abbrev KP(l:Ln)(a e:Int)(Q:Tq):Prop:=aV l (a+1) e/\0<=aq l (a+1) e (0:Int)/\aV l (a+1+1) e/\dz (aq l (a+1+1) e (0:Int))=W8/\dz (aq l (a+1+1) e (1:Int))=W9/\48<aq l (a+1+1) e (0:Int)/\1<=aq l (a+1+1) e (0:Int) - (48:Int)/\1<=1048576/\aV l (a+1+1+1) e/\1<=1000/\bif bl l (a+1+1+1) e [46] then aV l (a+1+1+1) e/\bif dz (aq l (a+1+1+1) e (1:Int)) then False else zI l a e Q else zI l a e Q
abbrev zJ(l:Ln)(a e:Int)(Q:Tq):Prop:=1<=1048576/\Q (Xf 2) [Xg 155 1,dE l (a+1) e,Xj [Xc (aq l a e (0:Int) - (48:Int))]]
abbrev KQ(l:Ln)(a e:Int)(Q:Tq):Prop:=aV l a e/\dz (aq l a e (0:Int))=W8/\dz (aq l a e (1:Int))=W9/\48<aq l a e (0:Int)/\1<=aq l a e (0:Int) - (48:Int)/\0<=1048576/\aV l (a+1) e/\1<=1000/\bif bl l (a+1) e [46] then aV l (a+1) e/\bif dz (aq l (a+1) e (1:Int)) then KP l a e Q else zJ l a e Q else zJ l a e Q
def KR(l v:Ln)(a e i j:Int)(q:ab)(Q:Tq)(R:Tr):Prop:=aV l a e/\bif dz (aq l a e (0:Int)) then KQ l a e Q else 0<=1048576/\Q (Xf 2) [Xg 155 1,dE l a e,Xj []]
theorem KS(h:KR l v a e i j q Q R):aL (aN [(103,lh),(239,zz),(232,zA),(117,ll),(110,tO)]) (cU (fS (tp 27)) 2 W8 q (qt 1)) 60 (fB (tp 27)) ⟨[("cursor", .ob 0)],aY l a e⟩ (bg 2 Q) (λ k σ=>bL 2 k σ.objs R):=kq h
abbrev KU(l:Ln)(a e b:Int)(S':Nat)(y z:Ll):Prop:=l=l/\b=b/\e=e/\y++ [[au (↑(ay (dJ (au a) (eK (au b) l)) S' 0):Int)]]=z/\z=bT (λ i=> [ay (dJ (au a) (eK (au b) l)) i 0]) (S'+1)
abbrev zK(l:Ln)(e:Int)(Q:Tq)(b:Int)(y:Ll):Prop:=bif aR (dK bI (ae y)) [77,73,77,69] then W9=W9/\False else Q (Xd (dK bI (ae y))) [Xg 155 1,dE l b e,Xj []]
abbrev zL(l:Ln)(e:Int)(Q:Tq)(b:Int)(y:Ll):Prop:=bq y+aa y<=1048576/\aa (ae y)<=500000/\(∀(c:Nat),c∈ae y->c<=1114111)/\bif !cw (dK bI (ae y)) [[72,69,65,68,69,82], [84,69,88,84], [77,73,77,69], [72,69,65,68,69,82,46,70,73,69,76,68,83], [72,69,65,68,69,82,46,70,73,69,76,68,83,46,78,79,84]] then False else zK l e Q b y
abbrev KV(l:Ln)(a e:Int)(Q:Tq)(b:Int):Prop:=aa (dJ (au a) (eK (au b) l))<=1048576/\(∃(y:Ll),l=l/\b=b/\e=e/\ []=y/\y= [])/\(∀(S':Nat) (y:Ll),S'<aa (dJ (au a) (eK (au b) l))->y=bT (λ i=> [ay (dJ (au a) (eK (au b) l)) i 0]) S'->0<=(↑(ay (dJ (au a) (eK (au b) l)) S' 0):Int)/\(↑(ay (dJ (au a) (eK (au b) l)) S' 0):Int)<=1114111/\∃(z:Ll),KU l a e b S' y z)/\∀(y:Ll),y=bT (λ i=> [ay (dJ (au a) (eK (au b) l)) i 0]) (aa (dJ (au a) (eK (au b) l)))->zL l e Q b y
abbrev KW(l:Ln)(a e:Int)(Q:Tq):Prop:=W9=W9/\aV l a e/\∀(b:Int),TW l [65,66,67,68,69,70,71,72,73,74,75,76,77,78,79,80,81,82,83,84,85,86,87,88,89,90,97,98,99,100,101,102,103,104,105,106,107,108,109,110,111,112,113,114,115,116,117,118,119,120,121,122,46] a e b->KV l a e Q b
def KX(l v:Ln)(a e i j:Int)(q:ab)(Q:Tq)(R:Tr):Prop:=aV l a e/\1<=1000/\bif bl l a e [93] then Q (Xd []) [Xg 155 1,dE l a e,Xj []] else KW l a e Q
theorem KY{l v:Ln}{a e i j:Int}{q:ab}{Q:Tq}{R:Tr}(h:KX l v a e i j q Q R):aL (aN [(117,ll),(225,lr),(131,qr),(176,mC)]) (cU (fS (tp 28)) 3 W8 q qu) 60 (fB (tp 28)) ⟨[("path", .ob 2),("cursor", .ob 0)],aY l a e++ [.tup []]⟩ (bg 3 Q) (λ k σ=>bL 3 k σ.objs R):=kq h
abbrev KZ(l:Ln)(a e i j b:Int)(S':Nat)(y z:Ll):Prop:=l=l/\b=b/\e=e/\i=i/\j=j/\y++ [[au (↑(ay (dJ (au (a+(↑1:Int))) (eK (au b) l)) S' 0):Int)]]=z/\z=bT (λ i=> [ay (dJ (au (a+(↑1:Int))) (eK (au b) l)) i 0]) (S'+1)
abbrev K1(l:Ln)(a e i j b:Int)(S':Nat)(y:Ll):Prop:= 0<=(↑(ay (dJ (au (a+(↑1:Int))) (eK (au b) l)) S' 0):Int)/\(↑(ay (dJ (au (a+(↑1:Int))) (eK (au b) l)) S' 0):Int)<=1114111/\∃(z:Ll),KZ l a e i j b S' y z
abbrev zM(l:Ln)(e i j:Int)(Q:Tq)(b:Int)(y:Ll):Prop:=bif aR (dK bI (ae y)) [77,73,77,69] then W9=W9/\Q (Xd (dK bI (ae y))) [Xg 155 1,dE l b e,Xj [Xc i,Xc j]] else Q (Xd (dK bI (ae y))) [Xg 155 1,dE l b e,Xj [Xc i,Xc j]]
abbrev zN(l:Ln)(e i j:Int)(Q:Tq)(b:Int)(y:Ll):Prop:=bq y+aa y<=1048576/\aa (ae y)<=500000/\(∀(c:Nat),c∈ae y->c<=1114111)/\bif !cw (dK bI (ae y)) [[72,69,65,68,69,82], [84,69,88,84], [77,73,77,69], [72,69,65,68,69,82,46,70,73,69,76,68,83], [72,69,65,68,69,82,46,70,73,69,76,68,83,46,78,79,84]] then False else zM l e i j Q b y
abbrev K2(l:Ln)(a e i j:Int)(Q:Tq)(b:Int):Prop:=aa (dJ (au (a+(↑1:Int))) (eK (au b) l))<=1048576/\(∃(y:Ll),l=l/\b=b/\e=e/\i=i/\j=j/\ []=y/\y= [])/\(∀(S':Nat) (y:Ll),S'<aa (dJ (au (a+(↑1:Int))) (eK (au b) l))->y=bT (λ i=> [ay (dJ (au (a+(↑1:Int))) (eK (au b) l)) i 0]) S'->K1 l a e i j b S' y)/\∀(y:Ll),y=bT (λ i=> [ay (dJ (au (a+(↑1:Int))) (eK (au b) l)) i 0]) (aa (dJ (au (a+(↑1:Int))) (eK (au b) l)))->zN l e i j Q b y
abbrev K3(l:Ln)(a e i j:Int)(Q:Tq):Prop:=aV l (a+(↑1:Int)) e/\∀(b:Int),TW l [65,66,67,68,69,70,71,72,73,74,75,76,77,78,79,80,81,82,83,84,85,86,87,88,89,90,97,98,99,100,101,102,103,104,105,106,107,108,109,110,111,112,113,114,115,116,117,118,119,120,121,122,46] (a+(↑1:Int)) e b->K2 l a e i j Q b
abbrev K4(l:Ln)(a e i j:Int)(R:Tr)(m:Str):Prop:=R 3 [Xg 155 1,dE l a e,Xj [Xc i,Xc j],Xm 4,dW m.cps.toList a]
def K5(l v:Ln)(a e i j:Int)(q:ab)(Q:Tq)(R:Tr):Prop:=aV l a e/\1<=1000/\bif bl l a e [93] then Q (Xd []) [Xg 155 1,dE l a e,Xj [Xc i,Xc j]] else W9=W9/\aV l a e/\1<=1000/\bif bl l a e [46] then K3 l a e i j Q else ∀(m:Str),K4 l a e i j R m
theorem K6{l v:Ln}{a e i j:Int}{q:ab}{Q:Tq}{R:Tr}(h:K5 l v a e i j q Q R):aL (aN [(117,ll),(225,lr),(131,qr),(176,mC)]) (cU (fS (tp 28)) 3 W8 q qu) 60 (fB (tp 28)) ⟨[("path", .ob 2),("cursor", .ob 0)],aY l a e++ [.tup [.num i, .num j]]⟩ (bg 3 Q) (λ k σ=>bL 3 k σ.objs R):=kq h
abbrev K7(l:Ln)(a e:Int)(R:Tr)(m:Str):Prop:=R 2 [Xg 155 1,Xh [("data",Xe l),("at",Xc (bb l (a+1) e).place),("end",Xc e)],Xm 3,Xh [("what",Xd m.cps.toList),("at",Xc (bb l (a+1) e).spot)]]
abbrev K8(l:Ln)(a e:Int)(Q:Tq)(R:Tr):Prop:=aV l a e/\0<=aq l a e (0:Int)/\aV l (a+1) e/\aa l<=500000/\bif (bb l (a+1) e).ok then Q (Xd (bb l (a+1) e).acc) [Xg 155 1,Xh [("data",Xe l),("at",Xc (bb l (a+1) e).place),("end",Xc e)]] else ∀(m:Str),K7 l a e R m
def K9(l v:Ln)(a e i j:Int)(q:ab)(Q:Tq)(R:Tr):Prop:=aV l a e/\bif W_ (aq l a e (0:Int)= 34) then K8 l a e Q R else False
theorem K_(h:K9 l v a e i j q Q R):aL (aN [(103,lh),(110,tO),(265,tF)]) (cU (fS (tp 32)) 2 W8 q aS) 60 (fB (tp 32)) ⟨[("cursor", .ob 0)],aY l a e⟩ (bg 2 Q) (λ k σ=>bL 2 k σ.objs R):=kq h
def K'(l v:Ln)(a e i j:Int)(q:ab)(Q:Tq)(R:Tr):Prop:=aV l a e/\1<=1000/\bif !bl l a e [60] then Q W' [Xg 155 1,dE l (bif bl l a e [60] then a+(↑1:Int) else a) e] else False
theorem Lb(h:K' l v a e i j q Q R):aL (aN [(124,qq)]) (cU (fS (tp 34)) 2 W8 q aS) 60 (fB (tp 34)) ⟨[("cursor", .ob 0)],aY l a e⟩ (bg 2 Q) (λ k σ=>bL 2 k σ.objs R):=kq h
end
section
variable{w:aQ}{mg mb:Tm}{l v:Ln}{a e i j:Int}{Q:Tq}{R:Tr}
theorem jz{k:Int}(h:aV l a e)(hk:0<=k):aV l (a+k) e:=⟨h.1,by have:=h.2.1;lia,h.2.2⟩
theorem fe:aq l (a+k) e n=aq l a e (k+n):=by unfold aq;rw[lO]
theorem ou(h:aV l a e):bl l a e [c]=W_ (aq l a e 0=c):=by
 revert h;refine fq λ h1 h2 h3 h4=> ?_;unfold bl aq;have hlen:(([c]:Ln).length:Int)=1:=rfl;rw[hlen,gf]
 by_cases c1:a+1<=e
 ·rw[decide_eq_true c1,if_pos ⟨h2,by assumption⟩]
  have hn:a.toNat<l.length:= (Int.toNat_lt (by lia)).mpr (by lia)
  have e1:(l.take (a+1).toNat).drop a.toNat= [l[a.toNat]]:=by
   rw[show (a+1).toNat=a.toNat+1 by lia,List.take_succ,bP hn]
   rw[List.drop_append_of_le_length (by rw[iF];grind),oS (by rw[iF];grind)]
   rfl
  rw[e1,dX,bP hn];show (aO l[a.toNat] c && W8)=W_ (((l[a.toNat]:Nat):Int)= (c:Int))
  by_cases q:l[a.toNat]=c
  ·rw[q,jl,decide_eq_true rfl];rfl
  ·have:aO l[a.toNat] c=W9:=by
    cases r:aO l[a.toNat] c with
    | false=>rfl
    | true=>exact absurd (dc r) q
   rw[this,decide_eq_false (by lia)];rfl
 ·rw[decide_eq_false c1,if_neg (by lia)]
  exact(decide_eq_false (by simp)).symm
theorem Lc:bx w mg mb 246 tP:=by
 refine cI (n:=60) (bud:=5) (((((aX.nil.cons zF rfl (by kernel_rfl)).cons tu rfl (by kernel_rfl)).cons KH rfl (by kernel_rfl)).cons KB rfl (by kernel_rfl)).cons qs rfl (by kernel_rfl)) (ba _) (fd:=ck vC) (body:=fB (tp 27)) (cA rfl) (by kernel_rfl) cH λ args objs Q R h=> ?_
 apply dQ h;intro r h1;apply cg h1;intro h2;apply fY h2;intro l a e;refine bF λ hg hq=> ?_;refine⟨_,qt 1,cT ["cursor"] (by kernel_rfl) (d8 λ v=>rfl),KS (v:= []) (i:=0) (j:=0) ⟨hg, ?_⟩⟩
 cases hf:dz (aq l a e 0) with
 | false=>rw[hf]at hq;exact⟨by decide,hq⟩
 | true=>
  rw[hf]at hq;revert hq;refine uU λ p0 p1 p2 p3 p4 hq=> ?_;have g1:=jz hg (k:=1) (by decide)
  have g2:=jz g1 (k:=1) (by decide)
  have g3:=jz g2 (k:=1) (by decide)
  have f1:dz (aq l a e 1)=W9:=by rw[p1];rfl
  refine⟨hg,hf,f1,by lia,by lia,by decide,g1,by decide, ?_⟩
  refine bN ?_ ⟨g1,bN ?_ ⟨g1, ?_,g2, ?_, ?_, ?_, ?_,by decide,g3,by decide,bN ?_ ⟨g3,cn ?_ ⟨by decide, ?_⟩⟩⟩⟩
  ·rw[ou g1,fe];exact decide_eq_true p1
  ·rw[fe];show dz (aq l a e 2)=W8;rw[p2];rfl
  ·rw[fe];show 0<=aq l a e 1;lia
  ·rw[fe,fe];show dz (aq l a e 2)=W8;rw[p2];rfl
  ·rw[fe,fe];show dz (aq l a e 3)=W9;rw[p3];rfl
  ·rw[fe,fe];show 48<aq l a e 2;lia
  ·rw[fe,fe];show 1<=aq l a e 2 - 48;lia
  ·rw[ou g3,fe,fe,fe];exact decide_eq_true p3
  ·rw[fe,fe,fe];exact p4
  ·rw[show aq l (a+1+1) e 0=aq l a e 2 from by rw[fe,fe];rfl,p2,p0,show a+1+1+1=a+3 by lia]
   exact hq
theorem zO{cs:Ln}{b b':Int}(h:TW l cs a e b)(h':TW l cs a e b'):b=b':=by
 revert h;refine fq λ h1 h2 h3 h4=> ?_;revert h';refine fq λ h1' h2' h3' h4'=> ?_;rcases Int.lt_trichotomy b b' with q | q | q
 ·have x:=h3' b h1 q
  have:b<e:=by grind
  rw[h4 this]at x;injection x
 ·exact q
 ·have x:=h3 b' h1' q
  have:b'<e:=by grind
  rw[h4' this]at x;injection x
theorem zP{b:Int}(h:aV l a e):((l.take b.toNat).drop a.toNat).length<=1048576:=by
 have:=h.1;rw[gQ,iF];exact fk (Nat.sub_le _ _) (fk (jG _ _) this)
theorem mE{b:Int}(h:aV l a e):∀c∈(l.take b.toNat).drop a.toNat,c<256:=λ c hc=>h.2.2.2 c (lM (kn hc))
theorem j7{x:Ln}(hx:∀c∈x,c<256){i:Nat}(hi:i<x.length):(0:Int)<=(x.getD i 0:Nat)/\((x.getD i 0:Nat):Int)<=1114111:=by
 have:=mD hx hi;lia
theorem ow{x:Ln}{y:Ll}(h:y=bT (λ i=> [x.getD i 0]) x.length):y.flatten=x/\bq y=x.length/\y.length=x.length:=by
 rw[oq (g:=λ c=> [c])]at h;subst h;have e1:=zp (g:=λ c:Nat=>c) (v:=x);rw[List.map_id']at e1;refine⟨e1, ?_,dq ..⟩;exact zt (g:=λ c=>c)
theorem GW:aX w mg mb 5 (aN [(117,ll),(225,lr),(131,qr),(176,mC)]):= (((aX.nil.cons tI rfl (by kernel_rfl)).cons Kf rfl (by kernel_rfl)).cons tD rfl (by kernel_rfl)).cons tu rfl (by kernel_rfl)
theorem Le:bx w mg mb 251 tQ:=by
 refine cI (n:=60) (bud:=5) GW (ba _) (fd:=ck vD) (body:=fB (tp 28)) (cA rfl) (by kernel_rfl) cH λ args objs Q R h=> ?_
 apply dQ h;intro r h1;apply cJ h1;intro v r h2;apply cg h2;intro h3;apply fZ h3;intro h4;apply KJ h4;intro l a e o;refine CR λ hg hs hdot b Wz hm hmi hlen hq=> ?_;unfold a_ at hm hmi hlen hq;induction o with
 | none=>
  refine⟨_,qu,cT ["cursor", "path"] (by kernel_rfl) (fK λ v v'=>rfl),KY (v:= []) (i:=0) (j:=0) ⟨hg,by decide,cn hs ⟨rfl,hg,λ b' htw'=> ?_⟩⟩⟩
  obtain rfl:=zO (show TW l j5 a e b from Wz) htw'
  refine⟨zP hg,⟨[],pn rfl⟩,λ i y hi hy=> ?_,λ y hy=> ?_⟩
  ·subst hy
   exact⟨(j7 (mE hg) hi).1,(j7 (mE hg) hi).2,_,pn rfl⟩
  ·refine cE (ow hy) λ e1 e2 e3=> ?_
   have hlen:((l.take b.toNat).drop a.toNat).length<=500000:=hlen;delta zL;delta zK;rw[e2,e3,e1];refine⟨by lia,hlen,λ c hc=>by have:=mE hg c hc;lia, ?_⟩
   refine cn ?_ (cn hmi hq);show (!cw _ j6)=W9;rw[show cw (((l.take b.toNat).drop a.toNat).map bI) j6=W8 from hm];rfl
 | some p=>
  obtain⟨i,j⟩:=p;have hd:bl l a e [46]=W8:=by rcases hdot with h | h;contradiction;exact h
  have g1:=jz hg (k:=1) (by decide)
  refine⟨_,qu,cT ["cursor", "path"] (by kernel_rfl) (fK λ v v'=>rfl),K6 (v:= []) ⟨hg,by decide,cn hs ⟨rfl,hg,by decide,bN hd ⟨g1,λ b' htw'=> ?_⟩⟩⟩⟩
  obtain rfl:=zO (show TW l j5 (a+1) e b from Wz) htw'
  refine⟨zP g1,⟨[],w8 rfl⟩,λ i y hi hy=> ?_,λ y hy=> ?_⟩
  ·subst hy
   exact⟨(j7 (mE g1) hi).1,(j7 (mE g1) hi).2,_,w8 rfl⟩
  ·refine cE (ow hy) λ e1 e2 e3=> ?_
   have hlen:((l.take b.toNat).drop (a+1).toNat).length<=500000:=hlen;have e2:bq y= ((l.take b.toNat).drop (a+1).toNat).length:=e2;have e3:y.length= ((l.take b.toNat).drop (a+1).toNat).length:=e3;have e1:y.flatten= (l.take b.toNat).drop (a+1).toNat:=e1;delta zN;delta zM;rw[e2,e3,e1];refine⟨by lia,hlen,λ c hc=>by have:=mE g1 c hc;lia, ?_⟩
   refine cn ?_ (cn hmi hq);show (!cw _ j6)=W9;rw[show cw (((l.take b.toNat).drop (a+1).toNat).map bI) j6=W8 from hm];rfl
theorem Lf:bx w mg mb 272 zG:=by
 refine cI (n:=60) (bud:=4) (((aX.nil.cons zi rfl (by kernel_rfl)).cons zF rfl (by kernel_rfl)).cons qs rfl (by kernel_rfl)) (ba _) (fd:=ck vF) (body:=fB (tp 32)) (cA rfl) (by kernel_rfl) cH λ args objs Q R h=> ?_
 apply dQ h;intro r h1;apply cg h1;intro h2;apply fY h2;intro l a e;refine fq λ hg hl hp hq=> ?_;refine⟨_,aS,cT ["cursor"] (by kernel_rfl) (d8 λ v=>rfl),K_ (v:= []) (i:=0) (j:=0) ⟨hg,bN (decide_eq_true hp) ?_⟩⟩
 refine⟨hg,by lia,jz hg (by decide),hl, ?_⟩
 cases TG:(bb l (a+1) e).ok with
 | true=>rw[TG]at hq;exact hq
 | false=>rw[TG]at hq;exact λ m=>hq _
theorem Lg:bx w mg mb 286 tT:=by
 refine cI (n:=60) (bud:=5) (aX.nil.cons tA rfl (by kernel_rfl)) (ba _) (fd:=ck vH) (body:=fB (tp 34)) (cA rfl) (by kernel_rfl) cH λ args objs Q R h=> ?_
 apply dQ h;intro r h1;apply cg h1;intro h2;apply fY h2;intro l a e;refine du λ hg hs hq=> ?_;refine⟨_,aS,cT ["cursor"] (by kernel_rfl) (d8 λ v=>rfl),Lb (v:= []) (i:=0) (j:=0) ⟨hg,by decide, ?_⟩⟩
 rw[hs];exact bN rfl hq
end
end Mine.Lake
open PySem.Calls
namespace Mine.Lake
noncomputable def zQ:aH:=⟨dV,λ as os Q _=>dm as λ r=>cz r λ v r=>bM r (gJ v λ w=>eZ os λ l a e=>aV l a e/\w.length<=1000/\cond (bl l a e w) (Q (.bo W8) (aY l (a+w.length) e)) (Q (.bo W9) (aY l a e))),2, [],W9⟩
theorem Lh:bx w mg mb 124 zQ:=tA.weaken rfl rfl rfl λ as os Q R h=>by
 apply dQ h;intro r h;apply cJ h;intro v r h;apply cg h;intro h;apply iX h;intro v h;apply fY h;intro l a e;refine du λ h1 h2 h3=> ?_;refine(⟨h1,h2, ?_⟩:aV l a e/\v.length<=1000/\Q (.bo (bl l a e v)) (aY l (cond (bl l a e v) (a+v.length) a) e));cases q:bl l a e v with
 | true=>rw[q]at h3;exact h3
 | false=>rw[q]at h3;exact h3
noncomputable def Li(p:Option (Int×Int))(w:Ln)(ys:Ll):List AO:= [.tup (jy p), .tupS ys, .dic [("path", .ob 0),("word", .st w),("names", .ob 1),("partial", .non)], .inst 214 2]
noncomputable def zR(o:AO):Option (List (List Nat)):=if h:o.ctorIdx=6 then AO.tupS.elim o h (λ l=>W6 l) else W7
theorem Lj(h:zR o=W6 x):o= .tupS x:=
 cv (dn h) λ hc h=>AO.tupS.elim (motive:=λ o=>∀hc:o.ctorIdx=6,(AO.tupS.elim o hc λ l=>W6 l:Option (List (List Nat)))=W6 x->o= .tupS x) o hc (λ l _ h=>congrArg Xk (bQ h)) hc h
def tU(os:La)(f:Option (Int×Int)->List (List Nat)->Prop):Prop:=fu os λ o1 r=>fu r λ o2 r=>fu r λ o3 r=>fu r λ o4 r=>hX r (my o4 214 2 (aJ (jS o3) λ d=>hX d (aJ (tJ o1) λ l=>tK l λ p=>aJ (zR o2) λ ys=>f p ys)))
theorem Lk{os:La}{f:Option (Int×Int)->List (List Nat)->Prop}(h:tU os f):∃p ys,os= [.tup (jy p), .tupS ys, .dic [], .inst 214 2]/\f p ys:=by
 refine cY (fJ h) λ o1 r e1 h=> ?_;refine cY (fJ h) λ o2 r2 e2 h=> ?_;refine cY (fJ h) λ o3 r3 e3 h=> ?_;refine cY (fJ h) λ o4 r4 e4 h=> ?_;refine aI (iA h) λ e5 h=> ?_;refine aI (n_ h) λ e6 h=> ?_;refine aj (bw h) λ d e7 h=> ?_;refine aI (iA h) λ e8 h=> ?_;refine aj (bw h) λ t e9 h=> ?_;refine aj (zD h) λ p f1 h=> ?_;refine aj (bw h) λ ys f2 h=> ?_;exact⟨p,ys,by rw[e1,e2,e3,e4,e5,e6,n9 e7,e8,zC e9,f1,Lj f2],h⟩
theorem Lm{os:La}{f:Option (Int×Int)->List (List Nat)->Prop}{M:List AO->Prop}(h:tU os f)(k:∀p ys,f p ys->M ([.tup (jy p), .tupS ys, .dic [], .inst 214 2])):M os:=by
 obtain⟨p,ys,rfl,q⟩:=Lk h;exact k p ys q
noncomputable def zS:aH:=⟨hZ,λ as os Q _=>cz as λ a1 r=>cz r λ a2 r=>cz r λ a3 r=>cz r λ a4 r=>cz r λ a5 r=>bM r (fb 3 a1 (fb 0 a2 (iz a3 λ w=>fb 1 a4 (tN a5 (tU os λ p ys=>Q .non (Li p w ys)))))),1, [],W9⟩
noncomputable def tV:aH:=qo 214 zS
noncomputable def Lp(l:Ln)(a e:Int):List AO:= [.dic [("data", .by_ l),("at", .num a),("end", .num e)], .inst 155 0]
def zT(os:La)(C:Nat)(P:Prop):Prop:=fu os λ o r=>fu r λ p r=>hX r (my p C 0 (aJ (jS o) λ d=>hX d P))
theorem Lq{os:La}{C:Nat}{P:Prop}(h:zT os C P):os= [.dic [], .inst C 0]/\P:=by
 refine cY (fJ h) λ o1 r e1 h=> ?_;refine cY (fJ h) λ o2 r2 e2 h=> ?_;refine aI (iA h) λ e3 h=> ?_;refine aI (n_ h) λ e4 h=> ?_;refine aj (bw h) λ d e5 h=> ?_;refine aI (iA h) λ e6 h=> ?_;exact⟨by rw[e1,e2,e3,e4,n9 e5,e6],h⟩
abbrev tW(os:La)(P:Prop):Prop:=zT os 155 P
theorem Lr{os:La}{P:Prop}(h:tW os P):os= [.dic [], .inst 155 0]/\P:=Lq h
theorem zU{os:La}{P:Prop}{M:List AO->Prop}(h:tW os P)(k:P->M ([.dic [], .inst 155 0])):M os:=by
 obtain⟨rfl,q⟩:=Lr h;exact k q
def Ls(r:List AV)(k:Int->Prop):Prop:=match r with
 | []=>k 0
 | a::r=>bM r (gq a k)
noncomputable def zV:aH:=⟨hZ,λ as os Q _=>cz as λ a1 r=>cz r λ a2 r=>Ls r λ i=>fb 1 a1 (gJ a2 λ l=>tW os (l.length<=500000/\Q .non (Lp l i l.length))),1, [],W8⟩
noncomputable def qv:aH:=qo 155 zV
end Mine.Lake
open PySem.Calls
namespace Mine.Lake
section
abbrev Lu(l:Ln)(a e:Int)(OK:Int×List (List Nat)->Prop)(x:Int×List (List Nat)):Prop:=l=l/\(bb l (a+(↑1:Int)+(↑1:Int)+1) e).place=x.fst/\e=e/\ [(bb l (a+(↑1:Int)+(↑1:Int)+1) e).acc]=x.snd/\OK x
abbrev Lw(l:Ln)(e:Int)(OK:Int×List (List Nat)->Prop)(MU:Int×List (List Nat)->Nat)(x y:Int×List (List Nat)):Prop:=l=l/\(bb l (x.fst+(↑1:Int)+1) e).place=y.fst/\e=e/\x.snd++ [(bb l (x.fst+(↑1:Int)+1) e).acc]=y.snd/\OK y/\MU y<MU x
abbrev Ly(l:Ln)(e:Int)(R:Tr)(x:Int×List (List Nat))(m:Ln):Prop:=R 2 [Xg 155 1,Xh [("data",Xe l),("at",Xc (bb l (x.fst+(↑1:Int)+1) e).place),("end",Xc e)],Xm 3,Xh [("what",Xd m),("at",Xc (bb l (x.fst+(↑1:Int)+1) e).spot)]]
abbrev Lz(l:Ln)(e:Int)(OK:Int×List (List Nat)->Prop)(MU:Int×List (List Nat)->Nat)(R:Tr)(x:Int×List (List Nat)):Prop:=aV l (x.fst+(↑1:Int)) e/\aa l<=500000/\aq l (x.fst+(↑1:Int)) e (0:Int)= 34/\bif (bb l (x.fst+(↑1:Int)+1) e).ok then aa x.snd<=1048576/\∃(y:Int×List (List Nat)),Lw l e OK MU x y else ∀(m:Ln),Ly l e R x m
abbrev LA(l:Ln)(e:Int)(Q:Tq)(x:Int×List (List Nat)):Prop:=aa x.snd<=1048576/\Q (Xf 2) [Xg 155 1,dE l (x.fst+(↑1:Int)) e,Xk x.snd]
abbrev LB(l:Ln)(e:Int)(R:Tr)(x:Int×List (List Nat))(m:Str):Prop:=R 2 [Xg 155 1,dE l x.fst e,Xm 3,dW m.cps.toList x.fst]
abbrev LC(l:Ln)(e:Int)(OK:Int×List (List Nat)->Prop)(MU:Int×List (List Nat)->Nat)(Q:Tq)(R:Tr)(x:Int×List (List Nat)):Prop:=aV l x.fst e/\1<=1000/\bif bl l x.fst e [32] then Lz l e OK MU R x else aV l x.fst e/\1<=1000/\bif bl l x.fst e [41] then LA l e Q x else ∀(m:Str),LB l e R x m
abbrev LD(l:Ln)(a e:Int)(R:Tr)(m:Ln):Prop:=R 2 [Xg 155 1,Xh [("data",Xe l),("at",Xc (bb l (a+(↑1:Int)+(↑1:Int)+1) e).place),("end",Xc e)],Xm 3,Xh [("what",Xd m),("at",Xc (bb l (a+(↑1:Int)+(↑1:Int)+1) e).spot)]]
abbrev LF(l:Ln)(a e:Int)(OK:Int×List (List Nat)->Prop)(MU:Int×List (List Nat)->Nat)(Q:Tq)(R:Tr):Prop:=aV l (a+(↑1:Int)+(↑1:Int)) e/\aa l<=500000/\aq l (a+(↑1:Int)+(↑1:Int)) e (0:Int)= 34/\bif (bb l (a+(↑1:Int)+(↑1:Int)+1) e).ok then(∃(x:Int×List (List Nat)),Lu l a e OK x)/\∀(x:Int×List (List Nat)),OK x->LC l e OK MU Q R x else ∀(m:Ln),LD l a e R m
abbrev LG(l:Ln)(a e:Int)(R:Tr)(m:Str):Prop:=R 2 [Xg 155 1,dE l (a+(↑1:Int)) e,Xm 3,dW m.cps.toList (a+(↑1:Int))]
abbrev LH(l:Ln)(a e:Int)(R:Tr)(m:Str):Prop:=R 2 [Xg 155 1,dE l a e,Xm 3,dW m.cps.toList a]
def LI(l:Ln)(a e:Int)(q:ab)(OK:Int×List (List Nat)->Prop)(MU:Int×List (List Nat)->Nat)(Q:Tq)(R:Tr):Prop:=aV l a e/\1<=1000/\bif bl l a e [32] then aV l (a+(↑1:Int)) e/\1<=1000/\bif bl l (a+(↑1:Int)) e [40] then LF l a e OK MU Q R else ∀(m:Str),LG l a e R m else ∀(m:Str),LH l a e R m
theorem LJ(h:LI l a e q OK MU Q R):aL (aN [(225,lr),(272,zG),(124,zQ)]) (cU (fS (tp 33)) 2 W8 q (fv (λ _=>W6 (zH l e OK MU)) .ss)) 60 (fB (tp 33)) ⟨[("cursor", .ob 0)],aY l a e⟩ (bg 2 Q) (λ k σ=>bL 2 k σ.objs R):=kq h
def LL(l v:Ln)(ys:Ll)(a e i j:Int)(q:ab)(Q:Tq)(R:Tr):Prop:=Q W' [Xj [],Xk ys,dS 0 v 1,Xg 214 2]
theorem LM(h:LL l v ys a e i j q Q R):aL (aN []) (cU (fS (mt 22 0)) 4 W9 q aS) 60 (fB (mt 22 0)) ⟨[("partial", .non),("names", .ob 1),("word", .st v),("path", .ob 0),("self", .ob 3)], [.tup [], .tupS ys, .dic [], .inst 214 2]⟩ (bg 4 Q) (λ k σ=>bL 4 k σ.objs R):=kq h
def LN(l v:Ln)(ys:Ll)(a e i j:Int)(q:ab)(Q:Tq)(R:Tr):Prop:=Q W' [Xj [Xc i,Xc j],Xk ys,dS 0 v 1,Xg 214 2]
theorem LO(h:LN l v ys a e i j q Q R):aL (aN []) (cU (fS (mt 22 0)) 4 W9 q aS) 60 (fB (mt 22 0)) ⟨[("partial", .non),("names", .ob 1),("word", .st v),("path", .ob 0),("self", .ob 3)], [.tup [.num i, .num j], .tupS ys, .dic [], .inst 214 2]⟩ (bg 4 Q) (λ k σ=>bL 4 k σ.objs R):=kq h
def LQ(l v:Ln)(ys:Ll)(a e i j:Int)(q:ab)(Q:Tq)(R:Tr):Prop:=aa l<=1048576/\Q W' [dE l i (aa l:Int),Xg 155 0]
theorem zW(h:LQ l v ys a e i j q Q R):aL (aN []) (cU (fS (mt 8 0)) 2 W8 q aS) 60 (fB (mt 8 0)) ⟨[("end", .num (-1)),("at", .num i),("data", .by_ l),("self", .ob 1)], [.dic [], .inst 155 0]⟩ (bg 2 Q) (λ k σ=>bL 2 k σ.objs R):=kq h
end
section
variable{w:aQ}{mg mb:Tm}{l v:Ln}{a b e i j:Int}{Q:Tq}{R:Tr}
theorem tX:∀{n:Nat} {b:Int} {xs:Ln},(c8 l e n b xs).ok=W8->b<(c8 l e n b xs).place/\(c8 l e n b xs).place<=e:=by
 intro n;induction n with
 | zero=>
  intro b xs h;contradiction
 | succ n ih=>
  intro b xs h;rw[zg]at h ⊢
  cases c1:W_ (aq l b e 0=34) with
  | true=>
   have:=mA (l:=l) (b:=b) (e:=e) (by have:=of_decide_eq_true c1;lia)
   exact⟨by show b<b+1;exact gg _,by show b+1<=e;lia⟩
  | false=>
   rw[c1]at h;cases c2:W_ (aq l b e 0=92) with
   | true=>
    rw[c2]at h;cases c3:fX (aq l (b+1) e 0) [34,92] with
    | true=>
     rw[c3]at h;have:=ih (b:=b+2) h;exact⟨by show b<(c8 l e n (b+2) _).place;lia,this.2⟩
    | false=>rw[c3]at h;contradiction
   | false=>
    rw[c2]at h;cases c3:(W_ (32<=aq l b e 0) && W_ (aq l b e 0<127)) with
    | true=>
     rw[c3]at h;have:=ih (b:=b+1) h;exact⟨by show b<(c8 l e n (b+1) _).place;lia,this.2⟩
    | false=>rw[c3]at h;contradiction
def tY(l:Ln)(e:Int)(r:eB)(x:Int×List (List Nat)):Prop:=0<=x.1/\x.1<=e/\(x.2.length:Int)<=x.1/\((aq l x.1 e 0=32/\NM l e (x.1+1) x.2 r)∨(aq l x.1 e 0≠32/\r=⟨W8,x.2,x.1,0⟩))
noncomputable def zX(e:Int)(x:Int×List (List Nat)):Nat:= (e - x.1).toNat
theorem zY(h:NM l e b acc r)(hb:0<=b)(hl:(acc.length:Int)<=b):aq l b e 0=34/\(((bb l (b+1) e).ok=W9/\r=⟨W9,acc,(bb l (b+1) e).place,(bb l (b+1) e).spot⟩)∨
  ((bb l (b+1) e).ok=W8/\b+1<(bb l (b+1) e).place/\tY l e r ((bb l (b+1) e).place,acc++ [(bb l (b+1) e).acc]))):=by
 have key:(bb l (b+1) e).ok=W8->b+1<(bb l (b+1) e).place/\(bb l (b+1) e).place<=e:=λ h=>tX h;cases h with
 | bad h1 h2=>exact⟨h1, .inl ⟨h2,rfl⟩⟩
 | one h1 h2 h3=>
  refine aI (key h2) λ k1 k2=> ?_;refine⟨h1, .inr ⟨h2,k1,by show 0<=(bb l (b+1) e).place;lia,k2, ?_, .inr ⟨h3,rfl⟩⟩⟩
  show ((acc++ [_]).length:Int)<=_;rw[bD,ri];lia
 | more h1 h2 h3 h4=>
  refine aI (key h2) λ k1 k2=> ?_;refine⟨h1, .inr ⟨h2,k1,by show 0<=(bb l (b+1) e).place;lia,k2, ?_, .inl ⟨h3,h4⟩⟩⟩
  show ((acc++ [_]).length:Int)<=_;rw[bD,ri];lia
theorem LR:bx w mg mb 279 tS:=by
 refine cI (n:=60) (bud:=5) (((aX.nil.cons Lh rfl (by kernel_rfl)).cons Lf rfl (by kernel_rfl)).cons tD rfl (by kernel_rfl)) (ba _) (fd:=ck vG) (body:=fB (tp 33)) (cA rfl) (by kernel_rfl) cH λ args objs Q R h=> ?_
 apply dQ h;intro r h1;apply cg h1;intro h2;apply fY h2;intro l a e;refine uV λ hg hl V4 hs2 r VB hq=> ?_;refine⟨_,fv (λ _=>W6 (zH l e (tY l e r) (zX e))) .ss,cT ["cursor"] (by kernel_rfl) (d8 λ v=>rfl),LJ (OK:=tY l e r) (MU:=zX e) ⟨hg,by decide,bN V4 ⟨jz hg (by decide),by decide,bN hs2 ⟨jz (jz hg (by decide)) (by decide),hl, ?_⟩⟩⟩⟩
 have ha:=hg.2.1;rw[show a+2=a+1+1 by lia]at VB
 obtain⟨p1,Ug⟩:=zY VB (by lia) (by show ((0:Nat):Int)<=_;lia)
 refine⟨p1, ?_⟩;revert Ug;refine fz (λ zr=> ?_) (λ zr=> ?_)
 ·revert zr
  refine bF λ k1 SY=> ?_;subst SY;exact cn k1 λ m=>hq m
 ·revert zr
  refine du λ k1 k2 k3=> ?_;refine bN k1 ⟨⟨_,rfl,rfl,rfl,rfl,k3⟩,λ x hx=> ?_⟩;revert hx;refine fq λ x1 x2 x3 hx=> ?_;have gx:aV l x.1 e:=⟨hg.1,x1,hg.2.2⟩;refine⟨gx,by decide, ?_⟩
  revert hx;refine fz (λ zr=> ?_) (λ zr=> ?_)
  ·revert zr
   refine bF λ y1 y2=> ?_;refine bN (by rw[ou gx];exact decide_eq_true y1) ⟨jz gx (by decide),hl, ?_⟩
   refine aI (zY y2 (by lia) (by lia)) λ z1 hz=> ?_
   refine⟨z1, ?_⟩;revert hz;refine fz (λ zr=> ?_) (λ zr=> ?_)
   ·revert zr
    refine bF λ z2 SY=> ?_;subst SY;exact cn z2 λ m=>hq m
   ·revert zr
    refine du λ z2 z3 z4=> ?_;have:=hg.2.2.1;refine bN z2 ⟨by lia,_,rfl,rfl,rfl,rfl,z4, ?_⟩
    have:=z4.2.1;show (e - (bb l (x.1+1+1) e).place).toNat<(e - x.1).toNat;exact hU (by lia) (by lia)
  ·revert zr
   refine bF λ y1 SY=> ?_;subst SY;refine cn (by rw[ou gx];exact decide_eq_false y1) ⟨gx,by decide, ?_⟩
   revert hq;refine du λ q1 q2 q3=> ?_;exact bN q1 ⟨fk q2 (by decide),q3⟩
theorem LS:bx w mg mb 204 zS:=by
 refine cI (n:=60) (bud:=0) aX.nil (ba _) (fd:=ck rA) (body:=fB (mt 22 0)) (cA rfl) (by kernel_rfl) cH λ args objs Q R h=> ?_
 apply cJ h;intro a1 r g1;apply cJ g1;intro a2 r g2;apply cJ g2;intro a3 r g3;apply cJ g3;intro a4 r g4;apply cJ g4;intro a5 r g5;apply cg g5;intro g6;apply fZ g6;intro g7;apply fZ g7;intro g8;apply jf g8;intro v g9;apply fZ g9;intro g10;apply KM g10;intro g11;apply Lm g11;intro p ys g12;have hb:n0 (ck rA) [.ob 3, .ob 0, .st v, .ob 1, .non] [("partial", .non),("names", .ob 1),("word", .st v),("path", .ob 0),("self", .ob 3)]:=
  jZ (T:=197) (dav:= []) (dv:= []) (items:= #[.str "" 450, .ref 196, .none]) ["self", "path", "word", "names", "partial"] (by kernel_rfl) rfl (λ P=>⟨vy,by kernel_rfl,rfl⟩) (JH λ _ _ _ _ _=>⟨_,rfl,rfl⟩) (λ _=> .nil)
 induction p with
 | none=>exact⟨_,aS,hb,LM (l:= []) (a:=0) (e:=0) (i:=0) (j:=0) g12⟩
 | some p=>obtain⟨i,j⟩:=p;exact⟨_,aS,hb,LO (l:= []) (a:=0) (e:=0) g12⟩
theorem LU:bx w mg mb 214 tV:=ti LS (by kernel_rfl) (by kernel_rfl) (by kernel_rfl)
theorem LV:bx w mg mb 88 zV:=by
 refine cI (n:=60) (bud:=0) aX.nil (ba _) (fd:=ck vk) (body:=fB (mt 8 0)) (cA rfl) (by kernel_rfl) cH λ args objs Q R h=> ?_
 apply cJ h;intro a1 r g1;apply cJ g1;intro a2 r g2;induction r with
 | nil=>
  apply fZ g2;intro g3;apply iX g3;intro l g4;apply zU g4;refine bF λ h1 h2=> ?_;exact⟨_,aS,jZ (T:=81) (dav:= [.num 0, .num (-1)]) (dv:= [.int 0 286, .int (-1) 288]) (items:= #[.int 0 286, .int (-1) 288]) ["self", "data", "at", "end"] (by kernel_rfl) rfl (λ P=>⟨ry,by kernel_rfl,rfl⟩) (fK λ _ _=>⟨_,rfl,rfl⟩) (λ _=> .cons ⟨_,rfl⟩ (.cons ⟨_,rfl⟩ .nil)),
   zW (v:= []) (ys:= []) (a:=0) (e:=0) (i:=0) (j:=0) ⟨by lia,h2⟩⟩
 | cons a3 r=>
  apply cg g2;intro k3;apply j3 k3;intro i k4;apply fZ k4;intro k5;apply iX k5;intro l k6;apply zU k6;refine bF λ h1 h2=> ?_;exact⟨_,aS,jZ (T:=81) (dav:= [.num (-1)]) (dv:= [.int (-1) 288]) (items:= #[.int 0 286, .int (-1) 288]) ["self", "data", "at", "end"] (by kernel_rfl) rfl (λ P=>⟨ry,by kernel_rfl,rfl⟩) (og λ _ _ _=>⟨_,rfl,rfl⟩) (λ _=> .cons ⟨_,rfl⟩ .nil),
   zW (v:= []) (ys:= []) (a:=0) (e:=0) (j:=0) ⟨by lia,h2⟩⟩
theorem zZ:bx w mg mb 155 qv:=ti LV (by kernel_rfl) (by kernel_rfl) (by kernel_rfl)
end
end Mine.Lake
open PySem.Calls
namespace Mine.Lake
noncomputable def z5:List (List Nat):= [("HEADER.FIELDS" :ab).cps.toList,("HEADER.FIELDS.NOT" :ab).cps.toList]
noncomputable def tZ(p:Option (Int×Int))(w:Ln)(ys:Ll):List AO:= [.inst 214 1, .dic [("path", .ob 2),("word", .st w),("names", .ob 3),("partial", .non)], .tup (jy p), .tupS ys]
def LW(v:Ln)(e:Int)(o:Option (Int×Int))(k:Int):Prop:=
 (dz (aq v 1 e 0)=W9/\o=W7/\k=1)∨(aq v 1 e 0=49/\aq v 1 e 1=46/\aq v 1 e 2=50/\aq v 1 e 3=46/\dz (aq v 1 e 4)=W9/\o=W6 (1,2)/\k=4)
structure ff (v:Ln) (o:Option (Int×Int)) (k b:Int) (r:eB):Prop where
 open_:bl v 0 v.length [91]=true
 path:LW v v.length o k
 noEnd:bl v k v.length [93]=W9
 dot:o=W7∨bl v k v.length [46]=W8
 tw:TW v j5 (dG k o) v.length b
 word:cw ((a_ v (dG k o) b).map bI) z5=W8
 sp:bl v b v.length [32]=W8
 br:bl v (b+1) v.length [40]=W8
 nm:NM v v.length (b+2) [] r
 fin:r.ok=W8->bl v r.place v.length [41]=W8/\bl v (r.place+1) v.length [93]=W8/\r.place+2=v.length/\r.names.length<=500000
def z6(f:Option (Int×Int)->Prop):Prop:=f W7∨f (W6 (1,2))
theorem LX(h:z6 f):∃o,f o:=by
 rcases h with h | h <;> exact⟨_,h⟩
noncomputable def t_:aH:=⟨hZ,λ as os Q R=>cz as λ a r=>bM r (iz a λ v=>iY os (v.length<=500000/\
 ((∃p,p<v.length/\126<v.getD p 0/\(∀j,j<p->v.getD j 0<=126)/\∀m,R 0 (e_ [] 0 m p))∨
  ((∀c∈v,c<=126)/\∃k b r,cond r.ok (z6 λ o=>ff v o k b r/\Q (.ob 0) (tZ o ((a_ v (dG k o) b).map bI) r.names)) ((∃o,ff v o k b r)/\∀m,R 0 (e_ [] 0 m r.spot)))))),8, [],W8⟩
noncomputable def z7(v:Ln):eS:=⟨Unit,λ _=>⟨[("text", .st v)], []⟩,λ i _=>∀j,j<i->v.getD j 0<=126,λ _=>0⟩
end Mine.Lake
open PySem.Calls
namespace Mine.Lake
section
abbrev LY(R:Tr)(i:Nat):Prop:=R 0 [Xm 1,Xh [("what",Xd [97,32,115,105,103,110,32,116,104,97,116,32,110,111,32,115,101,99,116,105,111,110,32,104,97,115]),("at",Xc (↑i:Int))]]
abbrev LZ(v:Ln)(R:Tr)(i:Nat):Prop:=aa v<=1048576/\0<=(↑i:Int)/\LT.lt (α:=Int) (↑i:Int) (aa v:Int)/\1=1/\bif W_ (126<(↑(ay v (au (↑i:Int)) 0):Int)) then LY R i else ∃(z:PUnit.{1}),v=v/\∀(j:Nat),j<i+1->ay v j 0<=126
abbrev z8(R:Tr)(r:eB):Prop:=R 0 [Xm 1,Xh [("what",Xd [115,111,109,101,116,104,105,110,103,32,115,116,97,110,100,115,32,98,101,104,105,110,100,32,116,104,101,32,115,101,99,116,105,111,110]),("at",Xc (r.place+1+(↑1:Int)))]]
abbrev L6(v:Ln)(Q:Tq)(b:Int)(r:eB):Prop:=Q (Xf 0) [Xg 214 1,Xh [("path",Xf 2),("word",Xd (dK bI (a_ v (dG (0+(↑1:Int)+3) (W6 ((1:Int),(2:Int)))) b))),("names",Xf 3),("partial",W')],Xj [Xc (1:Int),Xc (2:Int)],Xk r.names]
abbrev L7(v:Ln)(Q:Tq)(R:Tr)(b:Int)(r:eB):Prop:=aV v (r.place+1+(↑1:Int)) (aa v:Int)/\bl v (r.place+1+(↑1:Int)) (aa v:Int) [60]=W9/\bif !W_ ((aa v:Int)<=r.place+1+(↑1:Int)) then z8 R r else L6 v Q b r
abbrev L8(v:Ln)(Q:Tq)(R:Tr)(b:Int)(r:eB):Prop:=bl v r.place (aa v:Int) [41]=W8/\aa r.names<=500000/\aV v (r.place+1) (aa v:Int)/\1<=1000/\bif bl v (r.place+1) (aa v:Int) [93] then L7 v Q R b r else ∀(m:Str),R 0 [Xm 1,dW m.cps.toList (r.place+1)]
abbrev L9(v:Ln)(Q:Tq)(R:Tr)(b:Int):Prop:=aV v b (aa v:Int)/\aa v<=500000/\bl v b (aa v:Int) [32]=W8/\bl v (b+1) (aa v:Int) [40]=W8/\∃(r:eB),NM v (aa v:Int) (b+2) [] r/\bif r.ok then L8 v Q R b r else ∀(m:Ln),R 0 [Xm 1,dW m r.spot]
abbrev L_(R:Tr)(b:Int):Prop:=R 0 [Xm 1,Xh [("what",Xd [115,111,109,101,116,104,105,110,103,32,115,116,97,110,100,115,32,98,101,104,105,110,100,32,116,104,101,32,115,101,99,116,105,111,110]),("at",Xc (b+(↑1:Int)))]]
abbrev z9(v:Ln)(R:Tr)(b:Int):Prop:=aV v (b+(↑1:Int)) (aa v:Int)/\bl v (b+(↑1:Int)) (aa v:Int) [60]=W9/\bif !W_ ((aa v:Int)<=b+(↑1:Int)) then L_ R b else False
abbrev L'(v:Ln)(Q:Tq)(R:Tr)(b:Int):Prop:=TW v [65,66,67,68,69,70,71,72,73,74,75,76,77,78,79,80,81,82,83,84,85,86,87,88,89,90,97,98,99,100,101,102,103,104,105,106,107,108,109,110,111,112,113,114,115,116,117,118,119,120,121,122,46] (5:Int) (aa v:Int) b/\cw (dK bI (a_ v (dG (0+(↑1:Int)+3) (W6 ((1:Int),(2:Int)))) b)) j6=W8/\aR (dK bI (a_ v (dG (0+(↑1:Int)+3) (W6 ((1:Int),(2:Int)))) b)) [77,73,77,69]=W9/\aa (a_ v (dG (0+(↑1:Int)+3) (W6 ((1:Int),(2:Int)))) b)<=500000/\bif cw (dK bI (a_ v (dG (0+(↑1:Int)+3) (W6 ((1:Int),(2:Int)))) b)) [[72,69,65,68,69,82,46,70,73,69,76,68,83], [72,69,65,68,69,82,46,70,73,69,76,68,83,46,78,79,84]] then L9 v Q R b else aV v b (aa v:Int)/\1<=1000/\bif bl v b (aa v:Int) [93] then z9 v R b else ∀(m:Str),R 0 [Xm 1,dW m.cps.toList b]
abbrev Ma(v:Ln)(Q:Tq)(R:Tr):Prop:=aq v (0+(↑1:Int)) (aa v:Int) (0:Int)= 49/\aq v (0+(↑1:Int)) (aa v:Int) (1:Int)= 46/\aq v (0+(↑1:Int)) (aa v:Int) (2:Int)= 50/\aq v (0+(↑1:Int)) (aa v:Int) (3:Int)= 46/\dz (aq v (0+(↑1:Int)) (aa v:Int) (4:Int))=W9/\aV v (4:Int) (aa v:Int)/\bl v (0+(↑1:Int)+3) (aa v:Int) [93]=W9/\(W6 ((1:Int),(2:Int))=W7∨bl v (0+(↑1:Int)+3) (aa v:Int) [46]=W8)/\∃(b:Int),L' v Q R b
abbrev Mb(v:Ln)(Q:Tq)(b:Int)(r:eB):Prop:=Q (Xf 0) [Xg 214 1,Xh [("path",Xf 2),("word",Xd (dK bI (a_ v (dG (0+(↑1:Int)) W7) b))),("names",Xf 3),("partial",W')],Xj [],Xk r.names]
abbrev Mc(v:Ln)(Q:Tq)(R:Tr)(b:Int)(r:eB):Prop:=aV v (r.place+1+(↑1:Int)) (aa v:Int)/\bl v (r.place+1+(↑1:Int)) (aa v:Int) [60]=W9/\bif !W_ ((aa v:Int)<=r.place+1+(↑1:Int)) then z8 R r else Mb v Q b r
abbrev Md(v:Ln)(Q:Tq)(R:Tr)(b:Int)(r:eB):Prop:=bl v r.place (aa v:Int) [41]=W8/\aa r.names<=500000/\aV v (r.place+1) (aa v:Int)/\1<=1000/\bif bl v (r.place+1) (aa v:Int) [93] then Mc v Q R b r else ∀(m:Str),R 0 [Xm 1,dW m.cps.toList (r.place+1)]
abbrev Me(v:Ln)(Q:Tq)(R:Tr)(b:Int):Prop:=aV v b (aa v:Int)/\aa v<=500000/\bl v b (aa v:Int) [32]=W8/\bl v (b+1) (aa v:Int) [40]=W8/\∃(r:eB),NM v (aa v:Int) (b+2) [] r/\bif r.ok then Md v Q R b r else ∀(m:Ln),R 0 [Xm 1,dW m r.spot]
abbrev Mf(v:Ln)(Q:Tq)(R:Tr)(b:Int):Prop:=TW v [65,66,67,68,69,70,71,72,73,74,75,76,77,78,79,80,81,82,83,84,85,86,87,88,89,90,97,98,99,100,101,102,103,104,105,106,107,108,109,110,111,112,113,114,115,116,117,118,119,120,121,122,46] (1:Int) (aa v:Int) b/\cw (dK bI (a_ v (dG (0+(↑1:Int)) W7) b)) j6=W8/\aR (dK bI (a_ v (dG (0+(↑1:Int)) W7) b)) [77,73,77,69]=W9/\aa (a_ v (dG (0+(↑1:Int)) W7) b)<=500000/\bif cw (dK bI (a_ v (dG (0+(↑1:Int)) W7) b)) [[72,69,65,68,69,82,46,70,73,69,76,68,83], [72,69,65,68,69,82,46,70,73,69,76,68,83,46,78,79,84]] then Me v Q R b else aV v b (aa v:Int)/\1<=1000/\bif bl v b (aa v:Int) [93] then z9 v R b else ∀(m:Str),R 0 [Xm 1,dW m.cps.toList b]
abbrev Mg(v:Ln)(Q:Tq)(R:Tr):Prop:=aV v (1:Int) (aa v:Int)/\bl v (0+(↑1:Int)) (aa v:Int) [93]=W9/\(Eq (α:=Option (Int×Int)) W7 W7∨bl v (0+(↑1:Int)) (aa v:Int) [46]=W8)/\∃(b:Int),Mf v Q R b
abbrev Mh(v:Ln)(Q:Tq)(R:Tr):Prop:=aa v<=500000/\(∀(c:Nat),c∈v->c<=127)/\aa v<=500000/\aV v (0:Int) (aa v:Int)/\1<=1000/\bif bl v (0:Int) (aa v:Int) [91] then aV v (1:Int) (aa v:Int)/\bif dz (aq v (0+(↑1:Int)) (aa v:Int) (0:Int)) then Ma v Q R else Mg v Q R else ∀(m:Str),R 0 [Xm 1,dW m.cps.toList (0:Int)]
def Mi(v:Ln)(q:ab)(Q:Tq)(R:Tr):Prop:=aa v<=1048576/\0<=(aa v:Int)/\(aa v:Int)<=1048576/\au (aa v:Int)<=1048576/\(∃(x:PUnit.{1}),v=v/\∀(j:Nat),j<0->ay v j 0<=126)/\(∀(i:Nat) (y:PUnit.{1}),i<au (aa v:Int)->(∀(j:Nat),j<i->ay v j 0<=126)->LZ v R i)/\∀(y:PUnit.{1}),(∀(j:Nat),j<au (aa v:Int)->ay v j 0<=126)->Mh v Q R
theorem Mj(h:Mi v q Q R):aL (aN [(71,iB),(186,tH),(155,qv),(225,lr),(246,tP),(251,tQ),(279,tS),(286,tT),(95,tm),(214,tV)]) (cU (fS (tp 35)) 0 W8 q (fv (λ _=>W6 (z7 v)) .vs)) 60 (fB (tp 35)) ⟨[("text", .st v)], []⟩ (bg 0 Q) (λ k σ=>bL 0 k σ.objs R):=kq h
end
section
variable{w:aQ}{mg mb:Tm}{l v:Ln}{a b e i j:Int}{Q:Tq}{R:Tr}
theorem Mk(h:cw x z5=W8):cw x j6=W8/\aR x ("MIME" :ab).cps.toList=W9:=by
 have:x= ("HEADER.FIELDS" :ab).cps.toList∨x= ("HEADER.FIELDS.NOT" :ab).cps.toList:=by
  have h:(aR ("HEADER.FIELDS" :ab).cps.toList x || (aR ("HEADER.FIELDS.NOT" :ab).cps.toList x || false))=W8:=h
  rw[Bool.or_false,Bool.or_eq_true]at h;rcases h with h | h
  ·exact .inl (fW h).symm
  ·exact .inr (fW h).symm
 rcases this with rfl | rfl <;> exact⟨by decide+kernel,by decide+kernel⟩
theorem Ml(h:NM l e b acc r):0<=b->r.ok=W8->b<r.place:=by
 induction h with
 | bad _ _=>intro _ h;contradiction
 | one _ h2 _=>intro _ _;have:= (tX h2).1;show _<(bb l _ e).place;unfold bb;exact Int.le_of_lt ‹_›
 | @more b acc r _ h2 _ _ ih=>
  intro h0 hr;have h3:b+1<(bb l (b+1) e).place:= (tX h2).1;have:=ih (by lia) hr
  lia
theorem Mm:aX w mg mb 7 (aN [(71,iB),(186,tH),(155,qv),(225,lr),(246,tP),(251,tQ),(279,tS),(286,tT),(95,tm),(214,tV)]):=
 (((((((((aX.nil.cons LU rfl (by kernel_rfl)).cons JU rfl (by kernel_rfl)).cons Lg rfl (by kernel_rfl)).cons LR rfl (by kernel_rfl)).cons Le rfl (by kernel_rfl)).cons Lc rfl (by kernel_rfl)).cons tD rfl (by kernel_rfl)).cons zZ rfl (by kernel_rfl)).cons KF rfl (by kernel_rfl)).cons lp rfl (by kernel_rfl)
theorem Mn(h:e<=a):bl v a e [c]=W9:=by
 unfold bl;rw[decide_eq_false (show ¬ a+(([c]:Ln).length:Int)<=e from by have:(([c]:Ln).length:Int)=1:=rfl;lia)];rfl
theorem z_:bx w mg mb 293 t_:=by
 refine cI (n:=60) (bud:=7) Mm (ba _) (fd:=ck vI) (body:=fB (tp 35)) (cA rfl) (by kernel_rfl) cH λ args objs Q R h=> ?_
 apply cJ h;intro a r h1;apply cg h1;intro h2;apply jf h2;intro v h3;apply jx h3;refine bF λ hl hq=> ?_;refine⟨_,fv (λ _=>W6 (z7 v)) .vs,cT ["text"] (by kernel_rfl) (d8 λ v=>rfl),Mj ⟨by lia,by exact eV _,by lia,by lia,⟨(),rfl,λ j hj=>absurd hj (jH _)⟩,λ i y hi hy=> ?_,λ y hy=> ?_⟩⟩
 ·have hi':i<v.length:=by assumption
  refine⟨by lia,by exact eV _,by exact kA.mpr ‹_›,rfl, ?_⟩
  show cond (W_ ((126:Int)<((v.getD i 0:Nat):Int))) _ _
  by_cases c:126<v.getD i 0
  ·refine bN (decide_eq_true (by exact kA.mpr ‹_›)) ?_
   rcases hq with⟨p,hp,hv,hle,hr⟩ | ⟨Uk,_⟩
   ·have:i=p:=by
     rcases Nat.lt_trichotomy i p with q | q | q
     ·have:=hle i q;lia
     ·exact q
     ·have:=hy p q;lia
    subst this;exact hr _
   ·have:=mD Uk hi';lia
  ·refine cn (decide_eq_false (by lia)) ⟨(),rfl,λ j hj=> ?_⟩
   by_cases q:j<i
   ·exact hy j q
   ·obtain rfl:j=i:=by lia
    exact jF ‹_›
 ·rcases hq with⟨p,hp,hv,_,_⟩ | ⟨Uk,k,b,r,hq⟩
  ·have:=hy p (by assumption);omega
  ·obtain⟨o,S,hq⟩:∃o,ff v o k b r/\cond r.ok (Q (.ob 0) (tZ o ((a_ v (dG k o) b).map bI) r.names)) (∀m,R 0 (e_ [] 0 m r.spot)):=by
    cases TG:r.ok with
    | true=>rw[TG]at hq;obtain⟨o,S,h9⟩:=LX (f:=λ o=>ff v o k b r/\Q (.ob 0) (tZ o ((a_ v (dG k o) b).map bI) r.names)) hq;exact⟨o,S,h9⟩
    | false=>rw[TG]at hq;have hq:(∃o,ff v o k b r)/\∀m,R 0 (e_ [] 0 m r.spot):=hq;obtain⟨⟨o,S⟩,h9⟩:=hq;exact⟨o,S,h9⟩
   refine aI (Mk S.word) λ hW hM=> ?_;have iW:∀x:Int,0<=x->aV v x v.length:=λ x hx=>⟨by lia,hx,gg _,λ c hc=>by have:=Uk c hc;lia⟩
   have WD:∀x y:Int,(a_ v x y).length<=500000:=λ x y=>by unfold a_;rw[gQ,iF];exact fk (Nat.sub_le _ _) (fk (jG _ _) (by lia))
   refine⟨hl,λ c hc=>by have:=Uk c hc;lia,hl,iW 0 (by decide),by decide,bN S.open_ ⟨iW 1 (by decide), ?_⟩⟩
   have hkb:dG k o<=b:=S.tw.1;have tail:0<=b->r.ok=W8->aV v (r.place+1) v.length/\aV v (r.place+1+1) v.length/\bl v (r.place+1+1) v.length [60]=W9/\(!W_ ((v.length:Int)<=r.place+1+1))=W9:=λ hb TG=>by
    have h1:=Ml S.nm (by lia) TG
    refine iH (S.fin TG) λ _ _ f3 _=> ?_;refine⟨iW _ (by grind),iW _ (by lia),Mn (by lia), ?_⟩
    rw[decide_eq_true (by omega)];rfl
   rcases S.path with⟨p0,rfl,rfl⟩ | ⟨p0,p1,p2,p3,p4,rfl,rfl⟩
   ·have hb:0<=b:=by have:(1:Int)<=b:=hkb;exact Int.le_of_lt ‹_›
    refine cn p0 ⟨iW 1 (by decide),S.noEnd, .inl rfl,b,S.tw,hW,hM,WD _ _,bN S.word ⟨iW b hb,hl,S.sp,S.br,r,S.nm, ?_⟩⟩
    cases TG:r.ok with
    | false=>rw[TG]at hq;exact λ m=>hq m
    | true=>
     rw[TG]at hq;refine iH (S.fin TG) λ f1 f2 f3 f4=> ?_;refine iH (tail hb TG) λ t1 t2 t3 t4=> ?_;exact⟨f1,f4,t1,by decide,bN f2 ⟨t2,t3,cn t4 hq⟩⟩
   ·have hb:0<=b:=by have:(4:Int)+1<=b:=hkb;lia
    refine bN (show dz (aq v 1 v.length 0)=W8 by rw[p0];rfl) ⟨p0,p1,p2,p3,p4,iW 4 (by decide),S.noEnd,S.dot,b,S.tw,hW,hM,WD _ _,bN S.word ⟨iW b hb,hl,S.sp,S.br,r,S.nm, ?_⟩⟩
    cases TG:r.ok with
    | false=>rw[TG]at hq;exact λ m=>hq m
    | true=>
     rw[TG]at hq;refine iH (S.fin TG) λ f1 f2 f3 f4=> ?_;refine iH (tail hb TG) λ t1 t2 t3 t4=> ?_;exact⟨f1,f4,t1,by decide,bN f2 ⟨t2,t3,cn t4 hq⟩⟩
end
end Mine.Lake
open PySem.Calls
namespace Mine.Lake
noncomputable def cX(l:Ln)(a:Int):List AO:= [.inst 541 1, .dic [("data", .by_ l),("at", .num a)]]
def h_(objs:La)(f:List Nat->Int->Prop):Prop:=fu objs λ o r=>fu r λ p r=>hX r (my o 541 1 (aJ (jS p) λ l=>mz l "data" λ x l=>mz l "at" λ y l=>hX l (gJ x λ l=>gq y λ a=>f l a)))
theorem Mo(h:h_ objs f):∃l a,objs=cX l a/\f l a:=by
 refine cY (fJ h) λ o r e1 h=> ?_;refine cY (fJ h) λ p r2 e2 h=> ?_;refine aI (iA h) λ e3 h=> ?_;refine aI (n_ h) λ e4 h=> ?_;refine aj (bw h) λ l e5 h=> ?_;refine cY (oa h) λ x l1 e6 h=> ?_;refine cY (oa h) λ y l2 e7 h=> ?_;refine aI (iA h) λ e9 h=> ?_;refine aj (tj h) λ b f1 h=> ?_;refine aj (mx h) λ a f2 h=> ?_;exact⟨b,a,by rw[e1,e2,e3,e4,n9 e5,e6,e7,e9,f1,f2];rfl,h⟩
theorem iZ{f:List Nat->Int->Prop}{M:List AO->Prop}(h:h_ objs f)(k:∀l a,f l a->M (cX l a)):M objs:=by
 obtain⟨l,a,rfl,q⟩:=Mo h;exact k l a q
def bj(l:Ln)(a:Int):Prop:=l.length<=500000/\0<=a/\∀x∈l,x<256
noncomputable abbrev aP(l:Ln)(a:Int):Int:=aq l a l.length 0
noncomputable def cM(l:Ln)(a:Int)(w:Ln):Bool:=aR ((l.take (a+w.length).toNat).drop a.toNat) w
def ua(os:La)(P:Prop):Prop:=fu os λ o r=>fu r λ p r=>hX r (my p 541 0 (aJ (jS o) λ d=>hX d P))
theorem Mp{os:La}{P:Prop}(h:ua os P):os= [.dic [], .inst 541 0]/\P:=by
 refine cY (fJ h) λ o1 r e1 h=> ?_;refine cY (fJ h) λ o2 r2 e2 h=> ?_;refine aI (iA h) λ e3 h=> ?_;refine aI (n_ h) λ e4 h=> ?_;refine aj (bw h) λ d e5 h=> ?_;refine aI (iA h) λ e6 h=> ?_;exact⟨by rw[e1,e2,e3,e4,n9 e5,e6],h⟩
theorem Mq{os:La}{P:Prop}{M:List AO->Prop}(h:ua os P)(k:P->M ([.dic [], .inst 541 0])):M os:=by
 obtain⟨rfl,q⟩:=Mp h;exact k q
noncomputable def Aa:aH:=⟨hZ,λ as os Q _=>cz as λ a1 r=>cz r λ a2 r=>bM r (fb 1 a1 (gJ a2 λ l=>ua os (Q .non [.dic [("data", .by_ l),("at", .num 0)], .inst 541 0]))),1, [],W9⟩
noncomputable def Ab:aH:=qo 541 Aa
noncomputable def ub:aH:=⟨dV,λ as os Q _=>dm as λ r=>cz r λ a r=>bM r (iz a λ m=>h_ os λ l a=>Q (.ob 2) (cX l a++ [.exn 3, .dic [("what", .st m),("at", .num a)]])),4, [],W9⟩
noncomputable def oy:aH:=⟨dV,λ as os Q _=>dm as λ r=>bM r (h_ os λ l a=>bj l a/\Q (.num (aP l a)) (cX l a)),1, [],W9⟩
noncomputable def uc:aH:=⟨dV,λ as os Q _=>dm as λ r=>cz r λ a r=>bM r (gJ a λ v=>h_ os λ l a=>bj l a/\v.length<=1000/\cond (cM l a v) (Q (.bo W8) (cX l (a+v.length))) (Q (.bo W9) (cX l a))),1, [],W9⟩
noncomputable def qw:aH:=⟨dV,λ as os Q R=>dm as λ r=>cz r λ a r=>cz r λ b r=>bM r (gJ a λ v=>iz b λ m=>h_ os λ l a=>bj l a/\v.length<=1000/\cond (cM l a v) (Q .non (cX l (a+v.length))) (R 2 (e_ (cX l a) 2 m a))),5, [],W8⟩
noncomputable def Ac:aH:=⟨dV,λ as os Q R=>dm as λ r=>bM r (h_ os λ l a=>bj l a/\cM l a [32]=W8/\Q .non (cX l (a+1))),6, [],W8⟩
noncomputable def lB(c:Int):Bool:=W_ (33<=c) && W_ (c<=126)
noncomputable def eC(c:Int):Bool:=cond (lB c) (!eg c.toNat [91,93,40,41,60,62]) W9
noncomputable def Ad:aH:=⟨hZ,λ as os Q _=>cz as λ v r=>bM r (gq v λ i=>iY os (Q (.bo (lB i)) [])),1, [],W9⟩
noncomputable def Ae:aH:=⟨hZ,λ as os Q _=>cz as λ v r=>bM r (gq v λ i=>iY os (Q (.bo (eC i)) [])),2, [],W9⟩
noncomputable def Af:aH:=⟨hZ,λ as os Q _=>cz as λ v r=>bM r (gJ v λ v=>iY os (v.length<=500000/\(∀c∈v,c<=127)/\Q (.st v) [])),1, [],W8⟩
def IT(l:Ln)(a b:Int):Prop:=a<=b/\(b<=l.length∨b=a)/\(∀j,a<=j->j<b->eC (l.getD j.toNat 0)=W8)/\(b<l.length->eC (l.getD b.toNat 0)=W9)
def qx(f:ak)(v:AV)(P:Prop):Prop:=match v with
 | .gl (.ref g)=>aG (aO g f) P
 | _=>False
theorem Mr(h:qx f v P):v= .gl (.ref f)/\P:=by
 induction v <;> first | exact aF h | skip
 rename_i g;induction g <;> first | exact aF h | skip
 refine aI (bA h) λ h1 h2=> ?_;rw[dc h1];exact⟨rfl,h2⟩
theorem Ag{M:AV->Prop}(h:qx f v P)(k:P->M (.gl (.ref f))):M v:=by
 obtain⟨rfl,q⟩:=Mr h;exact k q
noncomputable def ud:aH:=⟨dV,λ as os Q _=>dm as λ r=>cz r λ v r=>bM r (qx 552 v (h_ os λ l a=>bj l a/\∀b,IT l a b->Q (.by_ (a_ l a b)) (cX l b))),3, [],W8⟩
noncomputable def Ah:aH:=⟨dV,λ as os Q _=>dm as λ r=>cz r λ v r=>cz r λ m r=>bM r (qx 552 v (iz m λ _=>h_ os λ l a=>bj l a/\∃b,IT l a b/\a<b/\Q (.st (a_ l a b)) (cX l b))),4, [],W8⟩
structure f5 where
 ok:Bool
 place:Int
noncomputable def d9(l:Ln):Nat->Int->f5
 | 0,b=>⟨W9,b⟩
 | n+1,b=>cond (W_ (aP l b=34)) ⟨W8,b+1⟩
  (cond (W_ (aP l b=92)) (cond (W_ (aP l (b+1)=34) || decide (aP l (b+1)=92)) (d9 l n (b+2)) ⟨W9,b+1⟩)
   (cond (W_ (aP l b<1) || (W_ (127<aP l b) || eg (aP l b).toNat [13,10])) ⟨W9,b⟩ (d9 l n (b+1))))
theorem Ai:d9 l (n+1) b=cond (W_ (aP l b=34)) ⟨W8,b+1⟩
  (cond (W_ (aP l b=92)) (cond (W_ (aP l (b+1)=34) || decide (aP l (b+1)=92)) (d9 l n (b+2)) ⟨W9,b+1⟩)
   (cond (W_ (aP l b<1) || (W_ (127<aP l b) || eg (aP l b).toNat [13,10])) ⟨W9,b⟩ (d9 l n (b+1)))):=rfl
noncomputable def eu(l:Ln)(a:Int):f5:=d9 l ((l.length - a).toNat+1) a
noncomputable def Aj:aH:=⟨dV,λ as os Q R=>dm as λ r=>bM r (h_ os λ l a=>bj l a/\cM l a [34]=W8/\cond (eu l (a+1)).ok (∀x,Q (.by_ x) (cX l (eu l (a+1)).place)) (∀m,R 2 (e_ (cX l (eu l (a+1)).place) 2 m (eu l (a+1)).place))),6, [],W8⟩
noncomputable def Ak(l:Ln)(a:Int):eS:=⟨Int,λ x=>⟨[("first", .num a),("fits", .gl (.ref 552)),("self", .ob 0)],cX l x⟩,λ _ x=>a<=x/\(x<=l.length∨x=a)/\∀j,a<=j->j<x->eC (l.getD j.toNat 0)=W8,λ x=>(l.length - x).toNat⟩
noncomputable def Al(l:Ln)(OK:Int×List Nat->Prop):eS:=⟨Int×List Nat,λ x=>⟨[("found", .ob 2),("self", .ob 0)],cX l x.1++ [.bar x.2]⟩,λ _ x=>OK x,λ x=>(l.length+1 - x.1).toNat⟩
noncomputable def Ms(v:Ln):eS:=⟨Unit,λ _=>⟨[("octets", .by_ v)], []⟩,λ _ _=>True,λ _=>0⟩
noncomputable def Am(v:Ln):fE:=⟨λ _=>W6 (Ms v),λ _=> .vs,λ _ σ=>W6 (oo σ.objs λ i=> [v.getD i 0]),λ _ _=>W7,λ _=>W7,λ _=>0⟩
end Mine.Lake
open PySem.Calls
namespace Mine.Lake
section
def Mt(l v m:Ln)(a i:Int)(q:ab)(Q:Tq)(R:Tr):Prop:=Q W' [dC l (0:Int),Xg 541 0]
theorem Mu(h:Mt l v m a i q Q R):aL (aN []) (cU (fS (mt 52 0)) 2 W9 q aS) 60 (fB (mt 52 0)) ⟨[("at", .num 0),("data", .by_ l),("self", .ob 1)], [.dic [], .inst 541 0]⟩ (bg 2 Q) (λ k σ=>bL 2 k σ.objs R):=kq h
def Mv(l v m:Ln)(a i:Int)(q:ab)(Q:Tq)(R:Tr):Prop:=Q (Xf 2) [Xg 541 1,dC l a,AO.exn 3,dW m a]
theorem Mw(h:Mv l v m a i q Q R):aL (aN [(71,iB)]) (cU (fS (mt 52 1)) 2 W9 q aS) 60 (fB (mt 52 1)) ⟨[("what", .st m),("self", .ob 0)],cX l a⟩ (bg 2 Q) (λ k σ=>bL 2 k σ.objs R):=kq h
def Mx(l v m:Ln)(a i:Int)(q:ab)(Q:Tq)(R:Tr):Prop:=aa l<=1048576/\bif W_ (a<(aa l:Int)) then aa l<=1048576/\0<=a/\a<(aa l:Int)/\Q (Xc (↑(ay l (au a) 0):Int)) [Xg 541 1,dC l a] else Q (Xc (-1:Int)) [Xg 541 1,dC l a]
theorem My(h:Mx l v m a i q Q R):aL (aN []) (cU (fS (mt 52 2)) 2 W9 q aS) 60 (fB (mt 52 2)) ⟨[("self", .ob 0)],cX l a⟩ (bg 2 Q) (λ k σ=>bL 2 k σ.objs R):=kq h
def Mz(l v m:Ln)(a i:Int)(q:ab)(Q:Tq)(R:Tr):Prop:=aa v<=1048576/\bB (W6 a) (W6 (a+(aa v:Int))) (aa l)/\bif !aR (af (W6 a) (W6 (a+(aa v:Int))) l) v then Q (Xa W9) [Xg 541 1,dC l a] else aa v<=1048576/\Q (Xa W8) [Xg 541 1,Xh [("data",Xe l),("at",Xc (a+(aa v:Int)))]]
theorem MA(h:Mz l v m a i q Q R):aL (aN []) (cU (fS (mt 52 3)) 2 W9 q aS) 60 (fB (mt 52 3)) ⟨[("octets", .by_ v),("self", .ob 0)],cX l a⟩ (bg 2 Q) (λ k σ=>bL 2 k σ.objs R):=kq h
def MB(l v m:Ln)(a i:Int)(q:ab)(Q:Tq)(R:Tr):Prop:=bj l a/\aa v<=1000/\bif cM l a v then Q W' [Xg 541 1,Xh [("data",Xe l),("at",Xc (a+(aa v:Int)))]] else R 2 [Xg 541 1,dC l a,Xm 3,dW m a]
theorem MC(h:MB l v m a i q Q R):aL (aN [(392,uc),(378,ub)]) (cU (fS (mt 52 4)) 2 W8 q aS) 60 (fB (mt 52 4)) ⟨[("what", .st m),("octets", .by_ v),("self", .ob 0)],cX l a⟩ (bg 2 Q) (λ k σ=>bL 2 k σ.objs R):=kq h
abbrev MD(l:Ln)(a:Int)(R:Tr):Prop:=R 2 [Xg 541 1,dC l a,Xm 3,Xh [("what",Xd [97,32,98,108,97,110,107,32,105,115,32,109,105,115,115,105,110,103]),("at",Xc a)]]
def ME(l v m:Ln)(a i:Int)(q:ab)(Q:Tq)(R:Tr):Prop:=bj l a/\1<=1000/\bif cM l a [32] then Q W' [Xg 541 1,dC l (a+(↑1:Int))] else MD l a R
theorem MF(h:ME l v m a i q Q R):aL (aN [(399,qw)]) (cU (fS (mt 52 5)) 2 W8 q aS) 60 (fB (mt 52 5)) ⟨[("self", .ob 0)],cX l a⟩ (bg 2 Q) (λ k σ=>bL 2 k σ.objs R):=kq h
def MG(l v m:Ln)(a i:Int)(q:ab)(Q:Tq)(R:Tr):Prop:=Q (Xa (W_ (33<=i) && W_ (i<=126))) []
theorem MH(h:MG l v m a i q Q R):aL (aN []) (cU (fS (tp 45)) 0 W9 q aS) 60 (fB (tp 45)) ⟨[("code", .num i)], []⟩ (bg 0 Q) (λ k σ=>bL 0 k σ.objs R):=kq h
def An(l v m:Ln)(a i:Int)(q:ab)(Q:Tq)(R:Tr):Prop:=bif lB i then 0<=i/\i<256/\Q (Xa !eg (au i) [91,93,40,41,60,62]) [] else Q (Xa W9) []
theorem MI(h:An l v m a i q Q R):aL (aN [(328,Ad)]) (cU (fS (tp 58)) 0 W9 q aS) 60 (fB (tp 58)) ⟨[("code", .num i)], []⟩ (bg 0 Q) (λ k σ=>bL 0 k σ.objs R):=kq h
abbrev MJ(v:Ln)(S':Nat)(SS:Ll):Prop:= 0<=(↑(ay v S' 0):Int)/\(↑(ay v S' 0):Int)<=1114111/\∃(z:Ll),SS++ [[au (↑(ay v S' 0):Int)]]=z/\z=bT (λ i=> [ay v i 0]) (S'+1)
abbrev MK(v:Ln)(Q:Tq):Prop:=aa v<=1048576/\(∃(SS:Ll), []=SS/\SS= [])/\(∀(S':Nat) (SS:Ll),S'<aa v->SS=bT (λ i=> [ay v i 0]) S'->MJ v S' SS)/\∀(SS:Ll),SS=bT (λ i=> [ay v i 0]) (aa v)->bq SS+aa SS<=1048576/\Q (Xd (ae SS)) []
def ML(l v m:Ln)(a i:Int)(q:ab)(Q:Tq)(R:Tr):Prop:=aa v<=1048576/\0<=(aa v:Int)/\(aa v:Int)<=1048576/\au (aa v:Int)<=1048576/\(∃(x:PUnit.{1}),v=v/\True)/\(∀(S':Nat) (y:PUnit.{1}),S'<au (aa v:Int)->True->aa v<=1048576/\0<=(↑S':Int)/\LT.lt (α:=Int) (↑S':Int) (aa v:Int)/\bif W_ (127<(↑(ay v (au (↑S':Int)) 0):Int)) then False else ∃(z:PUnit.{1}),v=v/\True)/\∀(y:PUnit.{1}),True->MK v Q
theorem MM(h:ML l v m a i q Q R):aL (aN []) (cU (fS (tp 12)) 0 W8 q (Am v)) 60 (fB (tp 12)) ⟨[("octets", .by_ v)], []⟩ (bg 0 Q) (λ k σ=>bL 0 k σ.objs R):=kq h
abbrev MN(l:Ln)(a x y:Int):Prop:=l=l/\x+1=y/\a=a/\di (552:ak)=di (552:ak)/\(a<=y/\(y<=(aa l:Int)∨y=a)/\∀(j:Int),a<=j->j<y->eC (↑(ay l (au j) 0):Int)=W8)/\au ((aa l:Int) - y)<au ((aa l:Int) - x)
abbrev MO(l:Ln)(a:Int)(Q:Tq)(x:Int):Prop:=aa l<=1048576/\0<=x/\x<(aa l:Int)/\bif eC (↑(ay l (au x) 0):Int) then ∃(y:Int),MN l a x y else bB (W6 a) (W6 x) (aa l)/\Q (Xe (af (W6 a) (W6 x) l)) [Xg 541 1,dC l x]
abbrev MP(l:Ln)(a:Int)(Q:Tq)(x:Int):Prop:=aa l<=1048576/\bif W_ (x<(aa l:Int)) then MO l a Q x else bB (W6 a) (W6 x) (aa l)/\Q (Xe (af (W6 a) (W6 x) l)) [Xg 541 1,dC l x]
def MQ(l v m:Ln)(a i:Int)(q:ab)(Q:Tq)(R:Tr):Prop:= (∃(x:Int),l=l/\a=x/\a=a/\di (552:ak)=di (552:ak)/\a<=x/\(x<=(aa l:Int)∨x=a)/\∀(j:Int),a<=j->j<x->eC (↑(ay l (au j) 0):Int)=W8)/\∀(x:Int),(a<=x/\(x<=(aa l:Int)∨x=a)/\∀(j:Int),a<=j->j<x->eC (↑(ay l (au j) 0):Int)=W8)->MP l a Q x
theorem MR(h:MQ l v m a i q Q R):aL (aN [(552,Ae)]) (cU (fS (mt 52 7)) 2 W8 q (fv (λ _=>W6 (Ak l a)) .vs)) 60 (fB (mt 52 7)) ⟨[("fits", .gl (.ref 552)),("self", .ob 0)],cX l a⟩ (bg 2 Q) (λ k σ=>bL 2 k σ.objs R):=kq h
abbrev MS(l:Ln)(a:Int)(Q:Tq)(b:Int):Prop:=aa (a_ l a b)<=1048576/\bif W_ ((aa (a_ l a b):Int)= 0) then False else aa (a_ l a b)<=500000/\(∀(c:Nat),c∈a_ l a b->c<=127)/\Q (Xd (a_ l a b)) [Xg 541 1,dC l b]
def MT(l v m:Ln)(a i:Int)(q:ab)(Q:Tq)(R:Tr):Prop:=bj l a/\∀(b:Int),a<=b/\(b<=(aa l:Int)∨b=a)/\(∀(j:Int),a<=j->j<b->eC (↑(ay l (au j) 0):Int)=W8)/\(b<(aa l:Int)->eC (↑(ay l (au b) 0):Int)=W9)->MS l a Q b
theorem MV(h:MT l v m a i q Q R):aL (aN [(420,ud),(181,Af)]) (cU (fS (mt 52 8)) 2 W8 q aS) 60 (fB (mt 52 8)) ⟨[("what", .st m),("fits", .gl (.ref 552)),("self", .ob 0)],cX l a⟩ (bg 2 Q) (λ k σ=>bL 2 k σ.objs R):=kq h
abbrev MW(l:Ln)(R:Tr)(x:Int×List Nat):Prop:=R 2 [Xg 541 1,dC l (x.fst+1),Xm 3,Xh [("what",Xd [97,32,98,97,99,107,115,108,97,115,104,32,97,104,101,97,100,32,111,102,32,97,110,111,116,104,101,114,32,115,105,103,110]),("at",Xc (x.fst+1))]]
abbrev ue(l:Ln)(R:Tr)(x:Int×List Nat):Prop:=R 2 [Xg 541 1,dC l (x.fst+1),Xm 3,Xh [("what",Xd [110,111,32,111,99,116,101,116,32,111,102,32,97,32,113,117,111,116,101,100,32,115,116,114,105,110,103]),("at",Xc (x.fst+1))]]
abbrev MX(l:Ln)(OK:Int×List Nat->Prop)(x y:Int×List Nat):Prop:=l=l/\x.fst+1+1=y.fst/\x.snd++ [au (aP l (x.fst+1))]=y.2/\OK y/\au ((aa l:Int)+1 - y.fst)<au ((aa l:Int)+1 - x.fst)
abbrev MY(l:Ln)(OK:Int×List Nat->Prop)(x:Int×List Nat):Prop:=bj l (x.fst+1)/\0<=aP l (x.fst+1)/\aP l (x.fst+1)<256/\aa x.snd<=1048576/\∃(y:Int×List Nat),MX l OK x y
abbrev MZ(l:Ln)(OK:Int×List Nat->Prop)(R:Tr)(x:Int×List Nat):Prop:=bj l (x.fst+1)/\0<=aP l (x.fst+1)/\aP l (x.fst+1)<256/\bif eg (au (aP l (x.fst+1))) [13,10] then ue l R x else MY l OK x
abbrev Ao(l:Ln)(OK:Int×List Nat->Prop)(R:Tr)(x:Int×List Nat):Prop:=bj l (x.fst+1)/\bif W_ (aP l (x.fst+1)<1) then ue l R x else bj l (x.fst+1)/\bif W_ (127<aP l (x.fst+1)) then ue l R x else MZ l OK R x
abbrev M0(l:Ln)(OK:Int×List Nat->Prop)(R:Tr)(x:Int×List Nat):Prop:=bj l (x.fst+1)/\bif !W_ (aP l (x.fst+1)= 34) then bj l (x.fst+1)/\bif !W_ (aP l (x.fst+1)= 92) then MW l R x else Ao l OK R x else Ao l OK R x
abbrev uf(l:Ln)(R:Tr)(x:Int×List Nat):Prop:=R 2 [Xg 541 1,dC l x.fst,Xm 3,Xh [("what",Xd [110,111,32,111,99,116,101,116,32,111,102,32,97,32,113,117,111,116,101,100,32,115,116,114,105,110,103]),("at",Xc x.fst)]]
abbrev M1(l:Ln)(OK:Int×List Nat->Prop)(x y:Int×List Nat):Prop:=l=l/\x.fst+1=y.fst/\x.snd++ [au (aP l x.fst)]=y.2/\OK y/\au ((aa l:Int)+1 - y.fst)<au ((aa l:Int)+1 - x.fst)
abbrev M3(l:Ln)(OK:Int×List Nat->Prop)(R:Tr)(x:Int×List Nat):Prop:=bj l x.fst/\0<=aP l x.fst/\aP l x.fst<256/\bif eg (au (aP l x.fst)) [13,10] then uf l R x else bj l x.fst/\0<=aP l x.fst/\aP l x.fst<256/\aa x.snd<=1048576/\∃(y:Int×List Nat),M1 l OK x y
abbrev M4(l:Ln)(OK:Int×List Nat->Prop)(R:Tr)(x:Int×List Nat):Prop:=bj l x.fst/\bif W_ (aP l x.fst= 92) then M0 l OK R x else bj l x.fst/\bif W_ (aP l x.fst<1) then uf l R x else bj l x.fst/\bif W_ (127<aP l x.fst) then uf l R x else M3 l OK R x
abbrev M5(l:Ln)(OK:Int×List Nat->Prop)(Q:Tq)(R:Tr)(x:Int×List Nat):Prop:=bj l x.fst/\bif !W_ (aP l x.fst= 34) then M4 l OK R x else aa x.snd<=1048576/\Q (Xe x.2) [Xg 541 1,dC l (x.fst+1)]
abbrev M6(l:Ln)(a:Int)(R:Tr):Prop:=R 2 [Xg 541 1,dC l a,Xm 3,Xh [("what",Xd [97,32,113,117,111,116,101,32,105,115,32,109,105,115,115,105,110,103]),("at",Xc a)]]
def M7(l:Ln)(a:Int)(q:ab)(OK:Int×List Nat->Prop)(Q:Tq)(R:Tr):Prop:=bj l a/\1<=1000/\bif cM l a [34] then(∃(x:Int×List Nat),l=l/\a+(↑1:Int)=x.fst/\Eq (α:=List Nat) [] x.2/\OK x)/\∀(x:Int×List Nat),OK x->M5 l OK Q R x else M6 l a R
theorem M8(h:M7 l a q OK Q R):aL (aN [(399,qw),(385,oy),(378,ub)]) (cU (fS (mt 52 15)) 2 W8 q (fv (λ _=>W6 (Al l OK)) .vs)) 60 (fB (mt 52 15)) ⟨[("self", .ob 0)],cX l a⟩ (bg 2 Q) (λ k σ=>bL 2 k σ.objs R):=kq h
end
section
variable{w:aQ}{mg mb:Tm}{l v m:Ln}{a b i:Int}{Q:Tq}{R:Tr}
theorem M9:bx w mg mb 371 Aa:=by
 refine cI (n:=60) (bud:=0) aX.nil (ba _) (fd:=ck vL) (body:=fB (mt 52 0)) (cA rfl) (by kernel_rfl) cH λ args objs Q R h=> ?_
 apply cJ h;intro a1 r h1;apply cJ h1;intro a2 r h2;apply cg h2;intro h3;apply fZ h3;intro h4;apply iX h4;intro l h5;apply Mq h5;intro h6;exact⟨_,aS,jZ (T:=364) (dav:= [.num 0]) (dv:= [.int 0 681]) (items:= #[.int 0 681]) ["self", "data", "at"] (by kernel_rfl) rfl (λ P=>⟨vK,by kernel_rfl,rfl⟩) (fK λ _ _=>⟨_,rfl,rfl⟩) (λ _=> .cons ⟨_,rfl⟩ .nil),Mu (v:= []) (m:= []) (a:=0) (i:=0) h6⟩
theorem M_:bx w mg mb 541 Ab:=ti M9 (by kernel_rfl) (by kernel_rfl) (by kernel_rfl)
theorem Ap:bx w mg mb 378 ub:=by
 refine cI (n:=60) (bud:=3) (aX.nil.cons lp rfl (by kernel_rfl)) (ba _) (fd:=ck vM) (body:=fB (mt 52 1)) (cA rfl) (by kernel_rfl) cH λ args objs Q R h=> ?_
 apply dQ h;intro r h1;apply cJ h1;intro a r h2;apply cg h2;intro h3;apply jf h3;intro m h4;apply iZ h4;intro l a h5;exact⟨_,aS,cT ["self", "what"] (by kernel_rfl) (fK λ _ _=>rfl),Mw (v:= []) (i:=0) h5⟩
theorem qy:bx w mg mb 385 oy:=by
 refine cI (n:=60) (bud:=0) aX.nil (ba _) (fd:=ck vN) (body:=fB (mt 52 2)) (cA rfl) (by kernel_rfl) cH λ args objs Q R h=> ?_
 apply dQ h;intro r h1;apply cg h1;intro h2;apply iZ h2;intro l a;refine bF λ Tp hq=> ?_;revert Tp;refine du λ g1 g2 g3=> ?_;refine⟨_,aS,cT ["self"] (by kernel_rfl) (d8 λ _=>rfl),My (v:= []) (m:= []) (i:=0) ⟨by lia, ?_⟩⟩
 unfold aP aq at hq;rw[gf]at hq
 by_cases c:a<l.length
 ·rw[if_pos ⟨g2,c⟩]at hq
  exact bN (decide_eq_true c) ⟨by lia,g2,c,hq⟩
 ·rw[if_neg (λ q=>c q.2)]at hq
  exact cn (decide_eq_false c) hq
theorem Aq:bx w mg mb 392 uc:=by
 refine cI (n:=60) (bud:=0) aX.nil (ba _) (fd:=ck vO) (body:=fB (mt 52 3)) (cA rfl) (by kernel_rfl) cH λ args objs Q R h=> ?_
 apply dQ h;intro r h1;apply cJ h1;intro v r h2;apply cg h2;intro h3;apply iX h3;intro v h4;apply iZ h4;intro l a;refine du λ Tp hv hq=> ?_;revert Tp;refine du λ g1 g2 g3=> ?_;refine⟨_,aS,cT ["self", "octets"] (by kernel_rfl) (fK λ _ _=>rfl),MA (m:= []) (i:=0) ⟨by lia,k_ g2 (by lia) (by lia), ?_⟩⟩
 show cond (!cM l a v) _ _;cases hs:cM l a v with
 | true=>rw[hs]at hq;exact⟨by lia,hq⟩
 | false=>rw[hs]at hq;exact hq
theorem ug:bx w mg mb 399 qw:=by
 refine cI (n:=60) (bud:=4) ((aX.nil.cons Ap rfl (by kernel_rfl)).cons Aq rfl (by kernel_rfl)) (ba _) (fd:=ck vP) (body:=fB (mt 52 4)) (cA rfl) (by kernel_rfl) cH λ args objs Q R h=> ?_
 apply dQ h;intro r h1;apply cJ h1;intro v r h2;apply cJ h2;intro m r h3;apply cg h3;intro h4;apply iX h4;intro v h5;apply jf h5;intro m h6;apply iZ h6;intro l a;refine du λ g hv hq=> ?_;exact⟨_,aS,cT ["self", "octets", "what"] (by kernel_rfl) (og λ _ _ _=>rfl),MC (i:=0) ⟨g,hv,hq⟩⟩
theorem M':bx w mg mb 406 Ac:=by
 refine cI (n:=60) (bud:=5) (aX.nil.cons ug rfl (by kernel_rfl)) (ba _) (fd:=ck vQ) (body:=fB (mt 52 5)) (cA rfl) (by kernel_rfl) cH λ args objs Q R h=> ?_
 apply dQ h;intro r h1;apply cg h1;intro h2;apply iZ h2;intro l a;refine du λ g hs hq=> ?_;exact⟨_,aS,cT ["self"] (by kernel_rfl) (d8 λ _=>rfl),MF (v:= []) (m:= []) (i:=0) ⟨g,by decide,bN hs hq⟩⟩
theorem Na:bx w mg mb 328 Ad:=by
 refine cI (n:=60) (bud:=0) aX.nil (ba _) (fd:=ck vJ) (body:=fB (tp 45)) (cA rfl) (by kernel_rfl) cH λ args objs Q R h=> ?_
 apply cJ h;intro v r h1;apply cg h1;intro h2;apply j3 h2;intro i h3;apply jx h3;intro h4;exact⟨_,aS,cT ["code"] (by kernel_rfl) (d8 λ v=>rfl),MH (l:= []) (v:= []) (m:= []) (a:=0) h4⟩
theorem Nb:bx w mg mb 552 Ae:=by
 refine cI (n:=60) (bud:=1) (aX.nil.cons Na rfl (by kernel_rfl)) (ba _) (fd:=ck vV) (body:=fB (tp 58)) (cA rfl) (by kernel_rfl) cH λ args objs Q R h=> ?_
 apply cJ h;intro v r h1;apply cg h1;intro h2;apply j3 h2;intro i h3;apply jx h3;intro h4;refine⟨_,aS,cT ["code"] (by kernel_rfl) (d8 λ v=>rfl),MI (l:= []) (v:= []) (m:= []) (a:=0) ?_⟩
 unfold eC at h4;unfold An;cases hp:lB i with
 | false=>rw[hp]at h4;exact h4
 | true=>
  rw[hp]at h4;unfold lB at hp;refine aI (bE.mp hp) λ p1 p2=> ?_;have:=of_decide_eq_true p1;have:=of_decide_eq_true p2;exact⟨by lia,by lia,h4⟩
theorem Nc:bx w mg mb 181 Af:=by
 refine cI (n:=60) (bud:=0) aX.nil (ba _) (fd:=ck vw) (body:=fB (tp 12)) (cA rfl) (by kernel_rfl) cH λ args objs Q R h=> ?_
 apply cJ h;intro v r h1;apply cg h1;intro h2;apply iX h2;intro v h3;apply jx h3;refine du λ hl hc hq=> ?_;refine⟨_,Am v,cT ["octets"] (by kernel_rfl) (d8 λ v=>rfl),MM (l:= []) (m:= []) (a:=0) (i:=0) ⟨by lia,by exact eV _,by lia,by lia,⟨(),rfl,trivial⟩,λ i y hi _=> ?_,λ y _=>⟨by lia,⟨[],rfl,rfl⟩,λ i y hi hy=> ?_,λ y hy=> ?_⟩⟩⟩
 ·have hi':i<v.length:=by assumption
  have hb:=mD hc hi';refine⟨by lia,by exact eV _,by exact kA.mpr ‹_›,cn (decide_eq_false ?_) ⟨(),rfl,trivial⟩⟩
  show ¬ (127:Int)<((v.getD i 0:Nat):Int);lia
 ·subst hy
  have hb:=mD hc hi;exact⟨by exact eV _,by lia,_,rfl,rfl⟩
 ·refine cE (ow hy) λ e1 e2 e3=> ?_
  rw[e2,e3,e1];exact⟨by lia,hq⟩
theorem Ar:bx w mg mb 420 ud:=by
 refine cI (n:=60) (bud:=2) (aX.nil.cons Nb rfl (by kernel_rfl)) (ba _) (fd:=ck vR) (body:=fB (mt 52 7)) (cA rfl) (by kernel_rfl) cH λ args objs Q R h=> ?_
 apply dQ h;intro r h1;apply cJ h1;intro v r h2;apply cg h2;intro h3;apply Ag h3;intro h4;apply iZ h4;intro l a;refine bF λ Tp hq=> ?_;revert Tp;refine du λ g1 g2 g3=> ?_;refine⟨_,fv (λ _=>W6 (Ak l a)) .vs,cT ["self", "fits"] (by kernel_rfl) (fK λ v v'=>rfl),MR (v:= []) (m:= []) (i:=0) ⟨⟨a,rfl,rfl,rfl,rfl,gg _, .inr rfl,λ j q1 q2=>absurd q1 (Int.not_le.mpr q2)⟩,λ x hx=> ?_⟩⟩
 revert hx;refine du λ k1 k2 k3=> ?_;have k0:0<=x:=Int.le_trans g2 k1;refine⟨by lia, ?_⟩
 by_cases c:x<l.length
 ·refine bN (decide_eq_true c) ⟨by lia,k0,c, ?_⟩
  cases hm:eC (l.getD x.toNat 0:Nat) with
  | true=>
   refine⟨x+1,rfl,rfl,rfl,rfl,⟨by lia, .inl (by assumption),λ j q1 q2=> ?_⟩,hU (by lia) (by lia)⟩
   by_cases q:j<x
   ·exact k3 j q1 q
   ·obtain rfl:j=x:=by lia
    exact hm
  | false=>exact⟨k_ g2 k0 (by lia),hq x ⟨k1,k2,k3,λ _=>hm⟩⟩
 ·exact cn (decide_eq_false c) ⟨k_ g2 k0 (by lia),hq x ⟨k1,k2,k3,λ q=>absurd q c⟩⟩
theorem As(h:IT l a b)(h':IT l a b'):b=b':=by
 revert h;refine fq λ h1 h2 h3 h4=> ?_;revert h';refine fq λ h1' h2' h3' h4'=> ?_;rcases Int.lt_trichotomy b b' with q | q | q
 ·have x:=h3' b h1 q
  have:b<l.length:=by grind
  rw[h4 this]at x;contradiction
 ·exact q
 ·have x:=h3 b' h1' q
  have:b'<l.length:=by grind
  rw[h4' this]at x;contradiction
theorem Nd(h:eC c=W8):33<=c/\c<=126:=by
 unfold eC at h;refine cF (b:=lB c) (λ hp=> ?bt) λ hp=> ?bf
 case bf=>rw[hp]at h;contradiction
 case bt=>
  unfold lB at hp;refine aI (bE.mp hp) λ p1 p2=> ?_;exact⟨of_decide_eq_true p1,of_decide_eq_true p2⟩
theorem Nf(h0:0<=a)(hb:b<=l.length)(h:c∈a_ l a b):∃j:Int,a<=j/\j<b/\l.getD j.toNat 0=c:=by
 obtain⟨a,rfl⟩:=Int.eq_ofNat_of_zero_le h0;unfold a_ at h;obtain⟨k,hk,rfl⟩:=List.getElem_of_mem h;have hk2:=hk;rw[gQ,iF]at hk2;have hk2:k+a<min b.toNat l.length:=Nat.add_lt_of_lt_sub hk2;rw[Nat.add_comm]at hk2;have h2:a+k<l.length:=i7 hk2 (jG _ _);refine⟨((a+k:Nat):Int),kB.mpr (kr a k),Int.lt_toNat.mp (i7 hk2 (Nat.min_le_left _ _)), ?_⟩;show l.getD (a+k) 0=_;rw[List.getElem_drop,List.getElem_take,dX,bP h2];rfl
theorem Ng(h0:0<=a)(U':a<=b)(hb:b<=l.length):((a_ l a b).length:Int)=b - a:=by
 obtain⟨a,rfl⟩:=Int.eq_ofNat_of_zero_le h0;obtain⟨b,rfl⟩:=Int.eq_ofNat_of_zero_le (Int.le_trans h0 U');show (((l.take b).drop a).length:Int)=_;have h1:=kB.mp hb;rw[gQ,iF,o7 h1];exact Int.ofNat_sub (kB.mp U')
theorem Nh:bx w mg mb 427 Ah:=by
 refine cI (n:=60) (bud:=3) ((aX.nil.cons Nc rfl (by kernel_rfl)).cons Ar rfl (by kernel_rfl)) (ba _) (fd:=ck vS) (body:=fB (mt 52 8)) (cA rfl) (by kernel_rfl) cH λ args objs Q R h=> ?_
 apply dQ h;intro r h1;apply cJ h1;intro v r h2;apply cJ h2;intro v r h3;apply cg h3;intro h4;apply Ag h4;intro h5;apply jf h5;intro m h6;apply iZ h6;intro l a;refine rk λ g b hit U' hq=> ?_;refine⟨_,aS,cT ["self", "fits", "what"] (by kernel_rfl) (og λ _ _ _=>rfl),MV (v:= []) (i:=0) ⟨g,λ b' hb'=> ?_⟩⟩
 obtain rfl:=As hit hb';have hbl:b<=l.length:=by rcases hit.2.1 with h | h;exact h;lia
 have hsz:=Ng (l:=l) g.2.1 hit.1 hbl;have hg:=g.1;have hg2:=g.2.1;refine⟨by lia,cn (decide_eq_false (by lia)) ⟨by lia,λ c hc=> ?_,hq⟩⟩
 refine cO (Nf g.2.1 hbl hc) λ j j1 j2 Tp=> ?_;subst Tp;have:=Nd (hit.2.2.1 j j1 j2);lia
theorem mF(h:0<=aP l b):0<=b/\b<l.length:=mA h
noncomputable abbrev qz(l:Ln)(x:Int×List Nat):Nat:= ((l.length:Int)+1 - x.1).toNat
abbrev Au(l:Ln)(OK:Int×List Nat->Prop)(x:Int×List Nat)(y:Int)(B1 B2 B3:Prop):Prop:=bj l y/\cond (W_ (aP l y<1)) B1 (bj l y/\cond (W_ (127<aP l y)) B2 (bj l y/\0<=aP l y/\aP l y<256/\cond (eg (aP l y).toNat [13,10]) B3
 (bj l y/\0<=aP l y/\aP l y<256/\x.2.length<=1048576/\∃z:Int×List Nat,l=l/\y+1=z.1/\x.2++ [(aP l y).toNat]=z.2/\OK z/\qz l z<qz l x)))
theorem Av(g:bj l y)(hlen:x.2.length<=1048576)(hb:(W_ (aP l y<1) || (W_ (127<aP l y) || eg (aP l y).toNat [13,10]))=W8->B1/\B2/\B3)
  (hg:(W_ (aP l y<1) || (W_ (127<aP l y) || eg (aP l y).toNat [13,10]))=W9->OK (y+1,x.2++ [(aP l y).toNat])/\qz l (y+1,x.2++ [(aP l y).toNat])<qz l x):Au l OK x y B1 B2 B3:=by
 refine⟨g, ?_⟩;cases c1:W_ (aP l y<1) with
 | true=>rw[c1]at hb;exact(hb rfl).1
 | false=>
  rw[c1]at hb hg;refine⟨g, ?_⟩;cases c2:W_ (127<aP l y) with
  | true=>rw[c2]at hb;exact(hb rfl).2.1
  | false=>
   rw[c2]at hb hg;have q1:=of_decide_eq_false c1;have q2:=of_decide_eq_false c2;refine⟨g,by omega,by omega, ?_⟩
   cases c3:eg (aP l y).toNat [13,10] with
   | true=>rw[c3]at hb;exact(hb rfl).2.2
   | false=>
    rw[c3]at hg;exact⟨g,by omega,by omega,hlen,_,rfl,rfl,rfl,hg rfl⟩
def uh(l:Ln)(a:Int)(x:Int×List Nat):Prop:=0<=x.1/\x.1<=l.length/\(x.2.length:Int)<=x.1/\∃n,(l.length - x.1).toNat<n/\d9 l n x.1=eu l a
theorem Ni:bx w mg mb 476 Aj:=by
 refine cI (n:=60) (bud:=5) (((aX.nil.cons Ap rfl (by kernel_rfl)).cons qy rfl (by kernel_rfl)).cons ug rfl (by kernel_rfl)) (ba _) (fd:=ck vT) (body:=fB (mt 52 15)) (cA rfl) (by kernel_rfl) cH λ args objs Q R h=> ?_
 apply dQ h;intro r h1;apply cg h1;intro h2;apply iZ h2;intro l a;refine du λ g hs hq=> ?_;have gl:=g.1;have ga:=g.2.1;have al:a+1<=l.length:=by
  unfold cM at hs;have:=congrArg aa (fW hs);rw[gQ,iF]at this;exact(Int.toNat_lt g.2.1).mp (i7 (Nat.lt_of_sub_pos (by rw[this];exact Nat.zero_lt_one)) (jG _ _))
 refine⟨_,fv (λ _=>W6 (Al l (uh l (a+1)))) .vs,cT ["self"] (by kernel_rfl) (d8 λ v=>rfl),M8 (OK:=uh l (a+1)) ⟨g,by decide,bN hs ⟨⟨(a+1, []),rfl,rfl,rfl,by show 0<=a+1;lia,al,by show ((0:Nat):Int)<=a+1;lia,_,ic _,rfl⟩,λ x hx=> ?_⟩⟩⟩
 revert hx;refine CA λ x1 x2 x3 n hn Ue=> ?_;have gx:∀k,0<=k->bj l (x.1+k):=λ k hk=>⟨g.1,by lia,g.2.2⟩
 have gx0:bj l x.1:=⟨g.1,x1,g.2.2⟩;induction n with
 | zero=>exact absurd ‹_› (jH _)
 | succ n=>
 rw[Ai]at Ue;refine⟨gx0, ?_⟩;cases c1:W_ (aP l x.1=34) with
 | true=>
  rw[c1]at Ue;have Ue:(⟨W8,x.1+1⟩:f5)=eu l (a+1):=Ue;rw[←Ue]at hq;exact⟨by lia,hq _⟩
 | false=>
  rw[c1]at Ue;refine⟨gx0, ?_⟩;cases c2:W_ (aP l x.1=92) with
  | true=>
   rw[c2]at Ue;have hp:=of_decide_eq_true c2;have hin:=mF (l:=l) (b:=x.1) (by lia)
   refine⟨gx 1 (by decide), ?_⟩
   have tl:∀{B1 B2 B3:Prop},(aP l (x.1+1)=34∨aP l (x.1+1)=92)->d9 l n (x.1+2)=eu l (a+1)->Au l (uh l (a+1)) x (x.1+1) B1 B2 B3:=λ WH Ue=>by
    have hin2:=mF (l:=l) (b:=x.1+1) (by lia)
    have hfalse:(W_ (aP l (x.1+1)<1) || (W_ (127<aP l (x.1+1)) || eg (aP l (x.1+1)).toNat [13,10]))=W9:=by rcases WH with h | h <;> rw[h] <;> rfl
    refine Av (gx 1 (by decide)) (by lia) (λ h=>by rw[hfalse]at h;contradiction) λ _=>⟨⟨by show 0<=x.1+1+1;lia,by show x.1+1+1<=_;lia, ?_,n,i7 (hU (b:=x.1) (by lia) (by lia)) (Nat.le_of_lt_succ hn), ?_⟩, ?_⟩
    ·show ((x.2++ [_]).length:Int)<=x.1+1+1
     rw[bD,ri];lia
    ·show d9 l n (x.1+1+1)=_
     rw[show x.1+1+1=x.1+2 by(exact lO _ _ _)];exact Ue
    ·exact hU (by lia) (by lia)
   cases c3:W_ (aP l (x.1+1)=34) with
   | true=>
    rw[c3]at Ue;exact tl (.inl (of_decide_eq_true c3)) Ue
   | false=>
    rw[c3]at Ue;refine⟨gx 1 (by decide), ?_⟩
    cases c4:W_ (aP l (x.1+1)=92) with
    | true=>
     rw[c4]at Ue;exact tl (.inr (of_decide_eq_true c4)) Ue
    | false=>
     rw[c4]at Ue;have Ue:(⟨W9,x.1+1⟩:f5)=eu l (a+1):=Ue;rw[←Ue]at hq;exact hq _
  | false=>
   rw[c2]at Ue;refine Av gx0 (by omega) (λ h=> ?_) λ h=> ?_
   ·rw[h]at Ue
    have Ue:(⟨W9,x.1⟩:f5)=eu l (a+1):=Ue;rw[←Ue]at hq;exact⟨hq _,hq _,hq _⟩
   ·rw[h]at Ue
    have h1:=Bool.or_eq_false_iff.mp h;have:=of_decide_eq_false h1.1;have hin:=mF (l:=l) (b:=x.1) (by omega)
    refine⟨⟨by show 0<=x.1+1;lia,by show x.1+1<=_;lia, ?_,n,i7 (hU (b:=x.1) (by lia) (by lia)) (Nat.le_of_lt_succ hn),Ue⟩, ?_⟩
    ·show ((x.2++ [_]).length:Int)<=x.1+1
     rw[bD,ri];lia
    ·exact hU (by lia) (by lia)
end
end Mine.Lake
open PySem.Calls
namespace Mine.Lake
noncomputable def oz:List (List Nat):= [("RFC822" :ab).cps.toList,("RFC822.HEADER" :ab).cps.toList,("RFC822.TEXT" :ab).cps.toList]
noncomputable def oA:List (List Nat):= [("FLAGS" :ab).cps.toList,("UID" :ab).cps.toList,("INTERNALDATE" :ab).cps.toList,("RFC822.SIZE" :ab).cps.toList,("ENVELOPE" :ab).cps.toList,("BODY" :ab).cps.toList,("BODYSTRUCTURE" :ab).cps.toList,("MODSEQ" :ab).cps.toList]
noncomputable def Aw:aH:=⟨hZ,λ as os Q _=>cz as λ v r=>bM r (iz v λ v=>iY os (v.length<=500000/\cw v oz=W9/\cw v oA=W8/\∀y,Q (.ob 0) [.tup [.st y]])),1, [],W8⟩
inductive SE (l:Ln):Int->f5->Prop
 | close {b}:aP l b=93->SE l b ⟨W8,b+1⟩
 | quo {b r}:aP l b=34->(eu l (b+1)).ok=W8->SE l (eu l (b+1)).place r->SE l b r
 | bad {b}:aP l b=34->(eu l (b+1)).ok=W9->SE l b ⟨W9,(eu l (b+1)).place⟩
 | sign {b r}:aP l b≠93->aP l b≠34->32<=aP l b->aP l b<=126->SE l (b+1) r->SE l b r
noncomputable def Ax:aH:=⟨dV,λ as os Q R=>dm as λ r=>bM r (h_ os λ l a=>bj l a/\∃r,SE l a r/\cond r.ok (aP l r.place≠60/\Q (.num r.place) (cX l a)) (∀m,R 2 (e_ (cX l r.place) 2 m r.place))),7, [],W8⟩
noncomputable def Ay(l:Ln)(a:Int)(OK:Int->Prop):eS:=⟨Int,λ x=>⟨[("begin", .num a),("wire", .ob 0)],cX l x⟩,λ _ x=>OK x,λ x=>(l.length+1 - x).toNat⟩
noncomputable def j8(os:La)(n:Nat)(m:Ln)(i:Int):List AO:=os++ [.exd (n+1), .dic [("what", .st m),("at", .num i)]]
noncomputable def d_(n:Nat)(p:Option (Int×Int))(w:Ln)(ys:Ll):List AO:= [.inst 214 (n+1), .dic [("path", .ob (n+2)),("word", .st w),("names", .ob (n+3)),("partial", .non)], .tup (jy p), .tupS ys]
noncomputable def oB(i:Int):Int:=if i>0 then i else 0
def gK(l:Ln)(a:Int)(Uz Uy:Int->List Nat->List (List Nat)->Prop)(RN RD:Int->Prop):Prop:=∃r,SE l a r/\cond r.ok (aP l r.place≠60/\
 ((∃p,p<(a_ l a r.place).length/\126<(a_ l a r.place).getD p 0/\(∀j,j<p->(a_ l a r.place).getD j 0<=126)/\RD (a+oB p))∨
  ((∀c∈a_ l a r.place,c<=126)/\∃k b s,cond s.ok ((ff (a_ l a r.place) W7 k b s/\Uz r.place ((a_ (a_ l a r.place) (dG k W7) b).map bI) s.names)∨(ff (a_ l a r.place) (W6 (1,2)) k b s/\Uy r.place ((a_ (a_ l a r.place) (dG k (W6 (1,2))) b).map bI) s.names))
   ((∃o,ff (a_ l a r.place) o k b s)/\RD (a+oB s.spot))))) (RN r.place)
theorem gK.mono(h:gK l a Uz Uy RN RD)(h0:∀p w ys,a<p->p<=l.length->Uz p w ys->QS0' p w ys)(h1:∀p w ys,a<p->p<=l.length->Uy p w ys->QS1' p w ys)(hn:∀p,RN p->RN' p)(hd:∀p,RD p->RD' p)
  (hge:∀r,SE l a r->r.ok=W8->a<r.place/\r.place<=l.length):gK l a QS0' QS1' RN' RD':=by
 revert h;refine b7 λ r hr h=> ?_;refine⟨r,hr, ?_⟩;cases TG:r.ok with
 | false=>rw[TG]at h;exact hn _ h
 | true=>
  rw[TG]at h;refine aI (hge r hr TG) λ g1 g2=> ?_;revert h;refine bF λ h2 h3=> ?_;refine⟨h2, ?_⟩;rcases h3 with⟨p,p1,p2,p3,p4⟩ | ⟨p1,k,b,s,h4⟩
  ·exact .inl ⟨p,p1,p2,p3,hd _ p4⟩
  ·refine .inr ⟨p1,k,b,s, ?_⟩
   cases hs:s.ok with
   | false=>rw[hs]at h4;exact⟨h4.1,hd _ h4.2⟩
   | true=>
    rw[hs]at h4;rcases h4 with h4 | h4
    ·exact .inl ⟨h4.1,h0 _ _ _ g1 g2 h4.2⟩
    ·exact .inr ⟨h4.1,h1 _ _ _ g1 g2 h4.2⟩
noncomputable def Az:aH:=⟨dV,λ as os Q R=>dm as λ r=>bM r (h_ os λ l a=>bj l a/\gK l a (λ p w ys=>Q (.ob 2) (cX l p++d_ 2 W7 w ys)) (λ p w ys=>Q (.ob 2) (cX l p++d_ 2 (W6 (1,2)) w ys)) (λ p=>∀m,R 2 (e_ (cX l p) 2 m p)) (λ p=>∀m,R 2 (j8 (cX l a) 2 m p))),9, [],W8⟩
noncomputable def AA(σ:AS):AV:=match σ.loc.lookup ("begin" :ab) with
 | some (.num f)=>match σ.loc.lookup ("end" :ab) with
  | some (.num b)=>match σ.objs with
   | _:: .dic [(_, .by_ l),_]::_=> .by_ ((l.take b.toNat).drop f.toNat)
   | _=> .non
  | _=> .non
 | _=> .non
end Mine.Lake
open PySem.Calls
namespace Mine.Lake
section
abbrev Nj(v:Ln)(Q:Tq):Prop:=bif cw v [[70,76,65,71,83], [85,73,68], [73,78,84,69,82,78,65,76,68,65,84,69], [82,70,67,56,50,50,46,83,73,90,69], [69,78,86,69,76,79,80,69], [66,79,68,89], [66,79,68,89,83,84,82,85,67,84,85,82,69], [77,79,68,83,69,81]] then aa v<=1048576/\∀(y:Ln),Q (Xf 0) [Xj [Xd y]] else Q W' []
def Nk(l v:Ln)(a i:Int)(q:ab)(Q:Tq)(R:Tr):Prop:=bif cw v [[82,70,67,56,50,50], [82,70,67,56,50,50,46,72,69,65,68,69,82], [82,70,67,56,50,50,46,84,69,88,84]] then Eq (α:=Option Int) W7 W7/\bB (W6 (7:Int)) W7 (aa v)/\Q (Xf 0) [Xj [Xd [114,102,99,56,50,50],Xd (dJ (bH (7:Int) (aa v)) v)]] else Nj v Q
theorem Nl(h:Nk l v a i q Q R):aL (aN []) (cU (fS (tp 60)) 0 W8 q aS) 60 (fB (tp 60)) ⟨[("word", .st v)], []⟩ (bg 0 Q) (λ k σ=>bL 0 k σ.objs R):=kq h
abbrev Nm(l:Ln)(R:Tr)(x:Int)(m:Ln):Prop:=R 2 [Xg 541 1,Xh [("data",Xe l),("at",Xc (eu l (x+1)).place)],Xm 3,Xh [("what",Xd m),("at",Xc (eu l (x+1)).place)]]
abbrev Nn(l:Ln)(a:Int)(OK:Int->Prop)(R:Tr)(x:Int):Prop:=bj l x/\cM l x [34]=W8/\bif (eu l (x+1)).ok then ∀(S3:Ln),∃(y:Int),l=l/\(eu l (x+1)).place=y/\a=a/\OK y/\au ((aa l:Int)+1 - y)<au ((aa l:Int)+1 - x) else ∀(m:Ln),Nm l R x m
abbrev Np(l:Ln)(a:Int)(OK:Int->Prop)(x:Int):Prop:=bj l x/\bif W_ (32<=aP l x) && W_ (aP l x<=126) then ∃(y:Int),l=l/\x+1=y/\a=a/\OK y/\au ((aa l:Int)+1 - y)<au ((aa l:Int)+1 - x) else False
abbrev Nq(l:Ln)(a:Int)(OK:Int->Prop)(Q:Tq)(x:Int):Prop:=bj l (x+1)/\bif W_ (aP l (x+1)= 60) then(∃(S3:Int),l=l/\x+1=S3/\a=a/\OK S3)/\∀(S3:Int),OK S3->bj l S3/\False else Q (Xc (x+1)) [Xg 541 1,dC l a]
def Nr(l:Ln)(a:Int)(q:ab)(OK:Int->Prop)(Q:Tq)(R:Tr):Prop:= (∃(x:Int),l=l/\a=x/\a=a/\OK x)/\∀(x:Int),OK x->bj l x/\bif !W_ (aP l x= 93) then bj l x/\bif W_ (aP l x= 34) then Nn l a OK R x else Np l a OK x else Nq l a OK Q x
theorem Nt(h:Nr l a q OK Q R):aL (aN [(385,oy),(476,Aj)]) (cU (fS (tp 61)) 2 W8 q (fv (λ _=>W6 (Ay l a OK)) .vs)) 60 (fB (tp 61)) ⟨[("wire", .ob 0)],cX l a⟩ (bg 2 Q) (λ k σ=>bL 2 k σ.objs R):=kq h
abbrev Nu(l:Ln)(a:Int)(r:f5)(S':Nat)(y z:Ll):Prop:=l=l/\a=a/\y++ [[au (↑(ay (af (W6 a) (W6 r.place) l) S' 0):Int)]]=z/\z=bT (λ i=> [ay (dJ (au a) (eK (au r.place) l)) i 0]) (S'+1)
abbrev Nv(l:Ln)(a:Int)(R:Tr)(p:Nat)(m:Ln):Prop:=R 2 [Xg 541 1,dC l a,Xn 3,dW m (a+if (↑p:Int)>(0:Int) then(↑p:Int) else(0:Int))]
abbrev Nw(l:Ln)(Q:Tq)(r:f5)(y:Ll)(k b:Int)(UW:eB):Prop:=ff (ae y) W7 k b UW/\Q (Xf 2) [Xg 541 1,dC l r.place,Xg 214 3,Xh [("path",Xf 4),("word",Xd (dK bI (a_ (ae y) (dG k W7) b))),("names",Xf 5),("partial",W')],Xj [],Xk UW.names]
abbrev Ny(l:Ln)(Q:Tq)(r:f5)(y:Ll)(k b:Int)(UW:eB):Prop:=ff (ae y) (W6 ((1:Int),(2:Int))) k b UW/\Q (Xf 2) [Xg 541 1,dC l r.place,Xg 214 3,Xh [("path",Xf 4),("word",Xd (dK bI (a_ (ae y) (dG k (W6 ((1:Int),(2:Int)))) b))),("names",Xf 5),("partial",W')],Xj [Xc (1:Int),Xc (2:Int)],Xk UW.names]
abbrev Nz(l:Ln)(a:Int)(R:Tr)(UW:eB)(m:Ln):Prop:=R 2 [Xg 541 1,dC l a,Xn 3,dW m (a+if UW.spot>(0:Int) then UW.spot else(0:Int))]
abbrev AB(l:Ln)(a:Int)(Q:Tq)(R:Tr)(r:f5)(y:Ll):Prop:=bq y+aa y<=1048576/\aa (ae y)<=500000/\((∃(p:Nat),p<aa (ae y)/\126<ay (ae y) p 0/\(∀(j:Nat),j<p->ay (ae y) j 0<=126)/\∀(m:Ln),Nv l a R p m)∨(∀(c:Nat),c∈ae y->c<=126)/\∃(k:Int),∃(b:Int),∃(UW:eB),bif UW.ok then Nw l Q r y k b UW∨Ny l Q r y k b UW else(∃(o:Option (Int×Int)),ff (ae y) o k b UW)/\∀(m:Ln),Nz l a R UW m)
abbrev NA(l:Ln)(a:Int)(Q:Tq)(R:Tr)(r:f5):Prop:= (aP l r.place= 60->False)/\bB (W6 a) (W6 r.place) (aa l)/\aa (af (W6 a) (W6 r.place) l)<=1048576/\(∃(y:Ll),l=l/\a=a/\ []=y/\y= [])/\(∀(S':Nat) (y:Ll),S'<aa (af (W6 a) (W6 r.place) l)->y=bT (λ i=> [ay (dJ (au a) (eK (au r.place) l)) i 0]) S'->0<=(↑(ay (af (W6 a) (W6 r.place) l) S' 0):Int)/\(↑(ay (af (W6 a) (W6 r.place) l) S' 0):Int)<=1114111/\∃(z:Ll),Nu l a r S' y z)/\∀(y:Ll),y=bT (λ i=> [ay (dJ (au a) (eK (au r.place) l)) i 0]) (aa (af (W6 a) (W6 r.place) l))->AB l a Q R r y
abbrev NB(l:Ln)(a:Int)(Q:Tq)(R:Tr)(r:f5):Prop:=SE l a r/\bif r.ok then NA l a Q R r else ∀(m:Ln),R 2 [Xg 541 1,dC l r.place,Xm 3,dW m r.place]
def NC(l v:Ln)(a i:Int)(q:ab)(Q:Tq)(R:Tr):Prop:=bj l a/\∃(r:f5),NB l a Q R r
theorem ND(h:NC l v a i q Q R):aL (aN [(571,Ax),(293,t_),(71,iB)]) (cU (fS (tp 62)) 2 W8 q (tR λ _ σ=>AA σ)) 60 (fB (tp 62)) ⟨[("wire", .ob 0)],cX l a⟩ (bg 2 Q) (λ k σ=>bL 2 k σ.objs R):=kq h
end
section
variable{w:aQ}{mg mb:Tm}{l v m:Ln}{a b i:Int}{Q:Tq}{R:Tr}
theorem NF:bx w mg mb 564 Aw:=by
 refine cI (n:=60) (bud:=0) aX.nil (ba _) (fd:=ck vW) (body:=fB (tp 60)) (cA rfl) (by kernel_rfl) cH λ args objs Q R h=> ?_
 apply cJ h;intro v r h1;apply cg h1;intro h2;apply jf h2;intro v h3;apply jx h3;refine fq λ hl hw hp hq=> ?_;exact⟨_,aS,cT ["word"] (by kernel_rfl) (d8 λ v=>rfl),Nl (l:= []) (a:=0) (i:=0) (cn hw (bN hp ⟨by lia,hq⟩))⟩
theorem NG(g:bj l b):cM l b [c]=bl l b l.length [c]:=by
 obtain⟨b,rfl⟩:=Int.eq_ofNat_of_zero_le g.2.1;unfold bl cM;have h1:(([c]:Ln).length:Int)=1:=rfl;rw[h1]
 by_cases h:(b:Int)+1<=l.length
 ·rw[decide_eq_true h];rfl
 ·rw[decide_eq_false h]
  have e:(l.take ((b:Int)+1).toNat).drop (b:Int).toNat= []:=oS (by rw[iF];exact fk (jG _ _) (jF λ q=>h (kB.mpr q)))
  rw[e];rfl
theorem AC(g:bj l b):cM l b [c]=W_ (aP l b=c):=by
 rw[NG g,ou ⟨by have:=g.1;lia,g.2.1,gg _,g.2.2⟩]
theorem AD:∀{n:Nat} {b:Int},(d9 l n b).ok=W8->b<(d9 l n b).place/\(d9 l n b).place<=l.length:=by
 intro n;induction n with
 | zero=>
  intro b h;contradiction
 | succ n ih=>
  intro b h;rw[Ai]at h ⊢
  cases c1:W_ (aP l b=34) with
  | true=>
   have:=mF (l:=l) (b:=b) (by have:=of_decide_eq_true c1;lia)
   exact⟨by show b<b+1;exact gg _,by show b+1<=_;lia⟩
  | false=>
   rw[c1]at h;cases c2:W_ (aP l b=92) with
   | true=>
    rw[c2]at h;cases c3:(W_ (aP l (b+1)=34) || decide (aP l (b+1)=92)) with
    | true=>
     rw[c3]at h;have:=ih (b:=b+2) h;exact⟨by show b<(d9 l n (b+2)).place;lia,this.2⟩
    | false=>rw[c3]at h;contradiction
   | false=>
    rw[c2]at h;cases c3:(W_ (aP l b<1) || (W_ (127<aP l b) || eg (aP l b).toNat [13,10])) with
    | true=>rw[c3]at h;contradiction
    | false=>
     rw[c3]at h;have:=ih (b:=b+1) h;exact⟨by show b<(d9 l n (b+1)).place;lia,this.2⟩
theorem oC(h:SE l b r):r.ok=W8->b<r.place/\r.place<=l.length:=by
 induction h with
 | @close b h=>intro _;have:=mF (l:=l) (b:=b) (by lia);exact⟨by show b<b+1;exact gg _,by show b+1<=_;omega⟩
 | @quo b r h1 h2 _ ih=>
  intro hr;have h3:b+1<(eu l (b+1)).place:= (AD h2).1;have:=ih hr
  omega
 | bad _ _=>intro h;contradiction
 | @sign b r _ _ _ _ _ ih=>intro hr;have:=ih hr;omega
theorem NH:bx w mg mb 571 Ax:=by
 refine cI (n:=60) (bud:=6) ((aX.nil.cons Ni rfl (by kernel_rfl)).cons qy rfl (by kernel_rfl)) (ba _) (fd:=ck vX) (body:=fB (tp 61)) (cA rfl) (by kernel_rfl) cH λ args objs Q R h=> ?_
 apply dQ h;intro r h1;apply cg h1;intro h2;apply iZ h2;intro l a;refine jK λ g r hse hq=> ?_;refine⟨_,fv (λ _=>W6 (Ay l a λ x=>0<=x/\SE l x r)) .vs,cT ["wire"] (by kernel_rfl) (d8 λ v=>rfl),Nt (OK:=λ x=>0<=x/\SE l x r) ⟨⟨a,rfl,rfl,rfl,g.2.1,hse⟩,λ x hx=> ?_⟩⟩
 revert hx;refine bF λ x0 hx=> ?_;have gx:bj l x:=⟨g.1,x0,g.2.2⟩;refine⟨gx, ?_⟩;cases hx with
 | close hp=>
  refine cn (by rw[decide_eq_true hp];rfl) ⟨⟨g.1,by lia,g.2.2⟩, ?_⟩
  revert hq;refine bF λ q1 q2=> ?_;exact cn (decide_eq_false q1) q2
 | quo hp TG hr=>
  have hge:=AD TG;have hge1:x+1<(eu l (x+1)).place:=hge.1;have hge2:(eu l (x+1)).place<=l.length:=hge.2;refine bN (by rw[decide_eq_false (by lia)];rfl) ⟨gx,bN (decide_eq_true hp) ⟨gx,by rw[AC gx];exact decide_eq_true hp,bN TG λ _=>⟨_,rfl,rfl,rfl,⟨by lia,hr⟩,hU (by lia) (by lia)⟩⟩⟩
 | bad hp TG=>
  exact bN (by rw[decide_eq_false (by omega)];rfl) ⟨gx,bN (decide_eq_true hp) ⟨gx,by rw[AC gx];exact decide_eq_true hp,cn TG λ m=>hq m⟩⟩
 | sign h1 h2 h3 h4 hr=>
  have hin:=mF (l:=l) (b:=x) (by lia)
  refine bN (by rw[decide_eq_false h1];rfl) ⟨gx,cn (decide_eq_false h2) ⟨gx,bN (by rw[decide_eq_true h3,decide_eq_true h4];rfl) ⟨_,rfl,rfl,rfl,⟨by lia,hr⟩,hU (by lia) (by lia)⟩⟩⟩
theorem NI:bx w mg mb 576 Az:=by
 refine cI (n:=60) (bud:=8) (((aX.nil.cons lp rfl (by kernel_rfl)).cons z_ rfl (by kernel_rfl)).cons NH rfl (by kernel_rfl)) (ba _) (fd:=ck vY) (body:=fB (tp 62)) (cA rfl) (by kernel_rfl) cH λ args objs Q R h=> ?_
 apply dQ h;intro r h1;apply cg h1;intro h2;apply iZ h2;intro l a;refine jK λ g r hse hq=> ?_;refine⟨_,tR λ _ σ=>AA σ,cT ["wire"] (by kernel_rfl) (d8 λ v=>rfl),ND (v:= []) (i:=0) ⟨g,r,hse, ?_⟩⟩
 cases TG:r.ok with
 | false=>rw[TG]at hq;exact hq
 | true=>
  rw[TG]at hq;revert hq;refine bF λ TT hq=> ?_;refine aI (oC hse TG) λ p1 p2=> ?_;have g1:=g.1;have g2:=g.2.1;have U9:(a_ l a r.place).length<=500000:=by unfold a_;rw[gQ,iF];exact fk (Nat.sub_le _ _) (fk (jG _ _) (by lia))
  have hlt:∀c∈a_ l a r.place,c<256:=λ c hc=>g.2.2 c (lM (kn hc));refine⟨TT,k_ g2 (by lia) (by lia), ?_⟩
  show (a_ l a r.place).length<=1048576/\_;refine⟨by lia,⟨[],rfl,rfl,rfl,rfl⟩,λ i y hi hy=> ?_,λ y hy=> ?_⟩
  ·subst hy
   exact⟨(j7 hlt hi).1,(j7 hlt hi).2,_,rfl,rfl,rfl,rfl⟩
  ·refine cE (ow (x:=a_ l a r.place) hy) λ e1 e2 e3=> ?_
   delta AB;rw[←e1]at hq U9;rw[e2,e3];exact⟨by lia,U9,hq⟩
end
end Mine.Lake
open PySem.Calls
namespace Mine.Lake
noncomputable def jh:List (List Nat):= [("BODY" :ab).cps.toList,("BODY.PEEK" :ab).cps.toList]
noncomputable def eT:List Nat:= ("section" :ab).cps.toList
noncomputable def b_(w:Ln):Bool:=aR w ("BODY.PEEK" :ab).cps.toList
noncomputable def eN(l:Ln)(a b:Int):List Nat:= (a_ l a b).map bI
def j9(l:Ln)(a:Int)(QP:Int->Prop)(Uz Uy:Int->List Nat->List Nat->List (List Nat)->Prop)(RN:Int->Prop)(RD:Int->Int->Prop):Prop:=∃b,IT l a b/\a<b/\
 ((cw (eN l a b) jh=W8/\aP l b=91/\gK l b (λ p w ys=>Uz p (eN l a b) w ys) (λ p w ys=>Uy p (eN l a b) w ys) RN (RD b))∨
  (cw (eN l a b) jh=W9/\cw (eN l a b) oz=W9/\cw (eN l a b) oA=W8/\QP b))
noncomputable def uj:aH:=⟨dV,λ as os Q R=>dm as λ r=>bM r (h_ os λ l a=>bj l a/\j9 l a (λ b=>∀y,Q (.ob 2) (cX l b++ [.tup [.st y]])) (λ p wd w ys=>Q (.ob 2) (cX l p++(.tup [.st eT, .ob 3, .bo (b_ wd)]::d_ 3 W7 w ys))) (λ p wd w ys=>Q (.ob 2) (cX l p++(.tup [.st eT, .ob 3, .bo (b_ wd)]::d_ 3 (W6 (1,2)) w ys)))
 (λ p=>∀m,R 2 (e_ (cX l p) 2 m p)) (λ b p=>∀m,R 2 (j8 (cX l b) 2 m p))),10, [],W8⟩
noncomputable def qA:ab:= "read_items.<locals>.<lambda>"
noncomputable def lC(l:Ln)(a:Int):List AO:= [.lam 0 1 [("wire",2)], .cod qA, .cel (.ob 3), .inst 541 4, .dic [("data", .by_ l),("at", .num a)]]
def AE(objs:La)(f:List Nat->Int->Prop):Prop:=∃l a,objs=lC l a/\f l a
noncomputable def mG(args:List AV)(objs:La):List Nat:=gc 0 (args.flatMap gY) objs
def AG(Q:Tq)(R:Tr)(l:Ln)(a:Int):Prop:=bj l a/\j9 l a (λ b=>∀y,Q (.ob 5) (lC l b++ [.tup [.st y]])) (λ p wd w ys=>Q (.ob 5) (lC l p++(.tup [.st eT, .ob 6, .bo (b_ wd)]::d_ 6 W7 w ys))) (λ p wd w ys=>Q (.ob 5) (lC l p++(.tup [.st eT, .ob 6, .bo (b_ wd)]::d_ 6 (W6 (1,2)) w ys)))
 (λ p=>∀m,R 5 (e_ (lC l p) 5 m p)) (λ b p=>∀m,R 5 (j8 (lC l b) 5 m p))
noncomputable def AH:aH:=⟨mG,λ as os Q R=>dm as λ r=>bM r (AE os (AG Q R)),11, [],W8⟩
end Mine.Lake
open PySem.Calls
namespace Mine.Lake
section
abbrev NJ(l:Ln)(a:Int)(Q:Tq)(b p:Int)(w:Ln)(ys:Ll):Prop:=Q (Xf 2) [Xg 541 1,dC l p,Xj [Xd [115,101,99,116,105,111,110],Xf 3,Xa (aR (dK bI (a_ l a b)) [66,79,68,89,46,80,69,69,75])],Xg 214 4,dS 5 w 6,Xj [],Xk ys]
abbrev NK(l:Ln)(a:Int)(Q:Tq)(b p:Int)(w:Ln)(ys:Ll):Prop:=Q (Xf 2) [Xg 541 1,dC l p,Xj [Xd [115,101,99,116,105,111,110],Xf 3,Xa (aR (dK bI (a_ l a b)) [66,79,68,89,46,80,69,69,75])],Xg 214 4,dS 5 w 6,Xj [Xc (1:Int),Xc (2:Int)],Xk ys]
abbrev NL(l:Ln)(a:Int)(Q:Tq)(R:Tr)(b:Int):Prop:=bj l b/\gK l b (λ p w ys=>NJ l a Q b p w ys) (λ p w ys=>NK l a Q b p w ys) (λ p=>∀(m:Ln),R 2 [Xg 541 1,dC l p,Xm 3,dW m p]) λ p=>∀(m:Ln),R 2 [Xg 541 1,dC l b,Xn 3,dW m p]
abbrev AI(l:Ln)(a:Int)(Q:Tq)(b:Int):Prop:=aa (dK bI (a_ l a b))<=500000/\cw (dK bI (a_ l a b)) oz=W9/\cw (dK bI (a_ l a b)) oA=W8/\∀(y:Ln),Q (Xf 2) [Xg 541 1,dC l b,Xj [Xd y]]
abbrev NN(l:Ln)(a:Int)(Q:Tq)(R:Tr)(b:Int):Prop:= (a<=b/\(b<=(aa l:Int)∨b=a)/\(∀(j:Int),a<=j->j<b->eC (↑(ay l (au j) 0):Int)=W8)/\(b<(aa l:Int)->eC (↑(ay l (au b) 0):Int)=W9))/\a<b/\aa (a_ l a b)<=500000/\(∀(c:Nat),c∈a_ l a b->c<=1114111)/\bif cw (dK bI (a_ l a b)) [[66,79,68,89], [66,79,68,89,46,80,69,69,75]] then bj l b/\bif W_ (aP l b= 91) then NL l a Q R b else AI l a Q b else AI l a Q b
def NO(l:Ln)(a i:Int)(q:ab)(Q:Tq)(R:Tr):Prop:=bj l a/\∃(b:Int),NN l a Q R b
theorem NQ(h:NO l a i q Q R):aL (aN [(427,Ah),(176,mC),(385,oy),(576,Az),(564,Aw)]) (cU (fS (tp 63)) 2 W8 q aS) 60 (fB (tp 63)) ⟨[("wire", .ob 0)],cX l a⟩ (bg 2 Q) (λ k σ=>bL 2 k σ.objs R):=kq h
abbrev NR(l:Ln)(Q:Tq)(b:Int)(y:Ln):Prop:=Q (Xf 5) [Xp 0 1 [("wire",2)],Xo "read_items.<locals>.<lambda>",Xl (Xf 3),Xg 541 4,dC l b,Xj [Xd y]]
abbrev NS(l:Ln)(Q:Tq)(p:Int)(wd w:Ln)(ys:Ll):Prop:=Q (Xf 5) [Xp 0 1 [("wire",2)],Xo "read_items.<locals>.<lambda>",Xl (Xf 3),Xg 541 4,dC l p,Xj [Xd [115,101,99,116,105,111,110],Xf 6,Xa (b_ wd)],Xg 214 7,dS 8 w 9,Xj [],Xk ys]
abbrev NT(l:Ln)(Q:Tq)(p:Int)(wd w:Ln)(ys:Ll):Prop:=Q (Xf 5) [Xp 0 1 [("wire",2)],Xo "read_items.<locals>.<lambda>",Xl (Xf 3),Xg 541 4,dC l p,Xj [Xd [115,101,99,116,105,111,110],Xf 6,Xa (b_ wd)],Xg 214 7,dS 8 w 9,Xj [Xc (1:Int),Xc (2:Int)],Xk ys]
abbrev NU(l:Ln)(R:Tr)(p:Int)(m:Ln):Prop:=R 5 [Xp 0 1 [("wire",2)],Xo "read_items.<locals>.<lambda>",Xl (Xf 3),Xg 541 4,dC l p,Xm 6,dW m p]
abbrev NV(l:Ln)(R:Tr)(b p:Int)(m:Ln):Prop:=R 5 [Xp 0 1 [("wire",2)],Xo "read_items.<locals>.<lambda>",Xl (Xf 3),Xg 541 4,dC l b,Xn 6,dW m p]
def NW(l:Ln)(a i:Int)(q:ab)(Q:Tq)(R:Tr):Prop:=bj l a/\j9 l a (λ b=>∀(y:Ln),NR l Q b y) (λ p wd w ys=>NS l Q p wd w ys) (λ p wd w ys=>NT l Q p wd w ys) (λ p=>∀(m:Ln),NU l R p m) λ b p=>∀(m:Ln),NV l R b p m
theorem NX(h:NW l a i q Q R):bh (aN [(583,uj)]) ⟨(bG 0).scope,5, [("wire",2)], [],W8,W7,q,W7,aS⟩ 60 (bG 0).body ⟨[],lC l a⟩ (λ a σ=>iN 5 a σ.objs Q) (λ k σ=>bL 5 k σ.objs R):=kq h
end
section
variable{w:aQ}{mg mb:Tm}{l v m:Ln}{a b i:Int}{Q:Tq}{R:Tr}
theorem AJ:bx w mg mb 583 uj:=by
 refine cI (n:=60) (bud:=9) (((((aX.nil.cons NF rfl (by kernel_rfl)).cons NI rfl (by kernel_rfl)).cons qy rfl (by kernel_rfl)).cons tI rfl (by kernel_rfl)).cons Nh rfl (by kernel_rfl)) (ba _) (fd:=ck vZ) (body:=fB (tp 63)) (cA rfl) (by kernel_rfl) cH λ args objs Q R h=> ?_
 apply dQ h;intro r h1;apply cg h1;intro h2;apply iZ h2;intro l a;refine rk λ g b hit U' hq=> ?_;have g1:=g.1;have g2:=g.2.1;have U9:(a_ l a b).length<=500000:=by unfold a_;rw[gQ,iF];exact fk (Nat.sub_le _ _) (fk (jG _ _) (by lia))
 have hup:(eN l a b).length<=500000:=by unfold eN;rw[dq];exact U9
 have gb:bj l b:=⟨g1,by lia,g.2.2⟩
 refine⟨_,aS,cT ["wire"] (by kernel_rfl) (d8 λ v=>rfl),NQ (i:=0) ⟨g,b,hit,U',U9,λ c hc=> ?_, ?_⟩⟩
 ·have:=g.2.2 c (lM (kn hc));lia
 ·rcases hq with⟨h1,h2,h3⟩ | ⟨h1,h2,h3,h4⟩
  ·exact bN h1 ⟨gb,bN (decide_eq_true h2) ⟨gb,h3⟩⟩
  ·exact cn h1 ⟨hup,h2,h3,h4⟩
theorem NY:jX w mg mb 0 AH:=by
 refine qn (n:=60) (bud:=10) (aX.nil.cons AJ rfl (by kernel_rfl)) (ba _) (by kernel_rfl) (by kernel_rfl) (by kernel_rfl) (by kernel_rfl) (λ _ _ _ _=>rfl) λ kf objs Q R h=> ?_
 refine aj (qp (as:= [.ob kf]) (f:=λ r=>bM r (AE objs (AG Q R))) h) λ r hr h1=> ?_;cases hr;refine CN (n8 h1) λ _ l a Tp h2=> ?_;subst Tp;exact⟨1, [("wire",2)],aS,rfl,rfl,NX (i:=0) h2⟩
end
end Mine.Lake
open PySem.Calls
namespace Mine.Lake
noncomputable def mH(l:Ln)(a:Int):List AO:= [.inst 541 1, .dic [("data", .by_ l),("at", .num a)], .lam 0 3 [("wire",4)], .cod qA, .cel (.ob 0)]
def NZ(objs:La)(f:List Nat->Int->Prop):Prop:=∃l a,objs=mH l a/\f l a
def uk(l:Ln)(a:Int)(Uz Uy:Int->List Nat->List Nat->List (List Nat)->Prop)(RN:Int->Prop)(RD:Int->Int->Prop):Prop:=
 cM l a [40]=W8/\cM l (a+1) [41]=W9/\∃b,IT l (a+1) b/\a+1<b/\cw (eN l (a+1) b) jh=W9/\cw (eN l (a+1) b) oz=W9/\cw (eN l (a+1) b) oA=W8/\cM l b [41]=W9/\cM l b [32]=W8/\
 ∃b2,IT l (b+1) b2/\b+1<b2/\cw (eN l (b+1) b2) jh=W8/\aP l b2=91/\gK l b2 (λ p w ys=>cM l p [41]=W8/\Uz p (eN l (b+1) b2) w ys) (λ p w ys=>cM l p [41]=W8/\Uy p (eN l (b+1) b2) w ys) RN (RD b2)
def N0(Q:Tq)(R:Tr)(l:Ln)(a:Int):Prop:=bj l a/\uk l a (λ p wd w ys=>∀y,Q (.ob 5) (mH l (p+1)++(.lst [.ob 6, .ob 7]:: .tup [.st y]:: .tup [.st eT, .ob 8, .bo (b_ wd)]::d_ 8 W7 w ys))) (λ p wd w ys=>∀y,Q (.ob 5) (mH l (p+1)++(.lst [.ob 6, .ob 7]:: .tup [.st y]:: .tup [.st eT, .ob 8, .bo (b_ wd)]::d_ 8 (W6 (1,2)) w ys)))
 (λ p=>∀m,R 5 (e_ (mH l p) 5 m p)) (λ b p=>∀m,R 5 (j8 (mH l b) 5 m p))
noncomputable def AK:aH:=⟨mG,λ as os Q R=>cz as λ v r=>cz r λ u r=>bM r (fb 0 v (fb 2 u (NZ os (N0 Q R)))),12, [],W8⟩
end Mine.Lake
open PySem.Calls
namespace Mine.Lake
section
abbrev N1(l:Ln)(a:Int)(Q:Tq):Prop:=Q (Xf 5) [Xg 541 1,dC l (a+(↑1:Int)+(↑1:Int)),Xp 0 3 [("wire",4)],Xo "read_items.<locals>.<lambda>",Xl (Xf 0),Xi []]
abbrev N4(Q:Tq)(Tt:Ln)(b:Int)(y:Ln):Prop:=Q (Xf 5) [Xg 541 1,dC Tt (b+(↑1:Int)),Xp 0 3 [("wire",4)],Xo "read_items.<locals>.<lambda>",Xl (Xf 0),Xi [Xf 6],Xj [Xd y]]
abbrev N5(Q:Tq)(y Ti:Ln)(Vc:Int)(SS:Ln):Prop:=Q (Xf 5) [Xg 541 1,dC Ti (Vc+(↑1:Int)),Xp 0 3 [("wire",4)],Xo "read_items.<locals>.<lambda>",Xl (Xf 0),Xi [Xf 6,Xf 7],Xj [Xd y],Xj [Xd SS]]
abbrev N6(Q:Tq)(y Ti:Ln)(p:Int)(wd w:Ln)(ys:Ll):Prop:=Q (Xf 5) [Xg 541 1,dC Ti (p+(↑1:Int)),Xp 0 3 [("wire",4)],Xo "read_items.<locals>.<lambda>",Xl (Xf 0),Xi [Xf 6,Xf 7],Xj [Xd y],Xj [Xd [115,101,99,116,105,111,110],Xf 8,Xa (b_ wd)],Xg 214 9,dS 10 w 11,Xj [],Xk ys]
abbrev N7(Q:Tq)(y Ti:Ln)(p:Int)(wd w:Ln)(ys:Ll):Prop:=Q (Xf 5) [Xg 541 1,dC Ti (p+(↑1:Int)),Xp 0 3 [("wire",4)],Xo "read_items.<locals>.<lambda>",Xl (Xf 0),Xi [Xf 6,Xf 7],Xj [Xd y],Xj [Xd [115,101,99,116,105,111,110],Xf 8,Xa (b_ wd)],Xg 214 9,dS 10 w 11,Xj [Xc (1:Int),Xc (2:Int)],Xk ys]
abbrev qB(R:Tr)(Ti:Ln)(p:Int)(m:Ln):Prop:=R 5 [Xg 541 1,dC Ti p,Xp 0 3 [("wire",4)],Xo "read_items.<locals>.<lambda>",Xl (Xf 0),Xm 6,dW m p]
abbrev qC(R:Tr)(Ti:Ln)(Vc p:Int)(m:Ln):Prop:=R 5 [Xg 541 1,dC Ti Vc,Xp 0 3 [("wire",4)],Xo "read_items.<locals>.<lambda>",Xl (Xf 0),Xn 6,dW m p]
abbrev N8(Q:Tq)(R:Tr)(Tt:Ln)(b:Int)(y Ti:Ln)(UL:Int):Prop:= [Xp 0 1 [("wire",2)],Xo "read_items.<locals>.<lambda>",Xl (Xf 3),Xg 541 4,dC Tt (b+1)]= [Xp 0 1 [("wire",2)],Xo "read_items.<locals>.<lambda>",Xl (Xf 3),Xg 541 4,dC Ti UL]/\bj Ti UL/\j9 Ti UL (λ Vc=>∀(SS:Ln),1<=1048576/\bj Ti Vc/\1<=1000/\bif cM Ti Vc [41] then N5 Q y Ti Vc SS else False) (λ p wd w ys=>1<=1048576/\bj Ti p/\1<=1000/\bif cM Ti p [41] then N6 Q y Ti p wd w ys else False) (λ p wd w ys=>1<=1048576/\bj Ti p/\1<=1000/\bif cM Ti p [41] then N7 Q y Ti p wd w ys else False) (λ p=>∀(m:Ln),qB R Ti p m) λ Vc p=>∀(m:Ln),qC R Ti Vc p m
abbrev N9(Q:Tq)(Tt:Ln)(p:Int)(wd w:Ln)(ys:Ll):Prop:=Q (Xf 5) [Xg 541 1,dC Tt (p+(↑1:Int)),Xp 0 3 [("wire",4)],Xo "read_items.<locals>.<lambda>",Xl (Xf 0),Xi [Xf 6],Xj [Xd [115,101,99,116,105,111,110],Xf 7,Xa (b_ wd)],Xg 214 8,dS 9 w 10,Xj [],Xk ys]
abbrev N_(Q:Tq)(wd w:Ln)(ys:Ll)(Ti:Ln)(b:Int)(y:Ln):Prop:=Q (Xf 5) [Xg 541 1,dC Ti (b+(↑1:Int)),Xp 0 3 [("wire",4)],Xo "read_items.<locals>.<lambda>",Xl (Xf 0),Xi [Xf 6,Xf 11],Xj [Xd [115,101,99,116,105,111,110],Xf 7,Xa (b_ wd)],Xg 214 8,dS 9 w 10,Xj [],Xk ys,Xj [Xd y]]
abbrev Oa(Q:Tq)(wd w:Ln)(ys:Ll)(Ti:Ln)(Ts:Int)(T2 Up:Ln)(S0:Ll):Prop:=Q (Xf 5) [Xg 541 1,dC Ti (Ts+(↑1:Int)),Xp 0 3 [("wire",4)],Xo "read_items.<locals>.<lambda>",Xl (Xf 0),Xi [Xf 6,Xf 11],Xj [Xd [115,101,99,116,105,111,110],Xf 7,Xa (b_ wd)],Xg 214 8,dS 9 w 10,Xj [],Xk ys,Xj [Xd [115,101,99,116,105,111,110],Xf 12,Xa (b_ T2)],Xg 214 13,dS 14 Up 15,Xj [],Xk S0]
abbrev Ob(Q:Tq)(wd w:Ln)(ys:Ll)(Ti:Ln)(Ts:Int)(T2 Up:Ln)(S0:Ll):Prop:=Q (Xf 5) [Xg 541 1,dC Ti (Ts+(↑1:Int)),Xp 0 3 [("wire",4)],Xo "read_items.<locals>.<lambda>",Xl (Xf 0),Xi [Xf 6,Xf 11],Xj [Xd [115,101,99,116,105,111,110],Xf 7,Xa (b_ wd)],Xg 214 8,dS 9 w 10,Xj [],Xk ys,Xj [Xd [115,101,99,116,105,111,110],Xf 12,Xa (b_ T2)],Xg 214 13,dS 14 Up 15,Xj [Xc (1:Int),Xc (2:Int)],Xk S0]
abbrev Oc(Q:Tq)(R:Tr)(Tt:Ln)(p:Int)(wd w:Ln)(ys:Ll)(Ti:Ln)(UL:Int):Prop:= [Xp 0 1 [("wire",2)],Xo "read_items.<locals>.<lambda>",Xl (Xf 3),Xg 541 4,dC Tt (p+1)]= [Xp 0 1 [("wire",2)],Xo "read_items.<locals>.<lambda>",Xl (Xf 3),Xg 541 4,dC Ti UL]/\bj Ti UL/\j9 Ti UL (λ b=>∀(y:Ln),1<=1048576/\bj Ti b/\1<=1000/\bif cM Ti b [41] then N_ Q wd w ys Ti b y else False) (λ Ts T2 Up S0=>1<=1048576/\bj Ti Ts/\1<=1000/\bif cM Ti Ts [41] then Oa Q wd w ys Ti Ts T2 Up S0 else False) (λ Ts T2 Up S0=>1<=1048576/\bj Ti Ts/\1<=1000/\bif cM Ti Ts [41] then Ob Q wd w ys Ti Ts T2 Up S0 else False) (λ Ts=>∀(m:Ln),qB R Ti Ts m) λ b Ts=>∀(m:Ln),qC R Ti b Ts m
abbrev Od(Q:Tq)(Tt:Ln)(p:Int)(wd w:Ln)(ys:Ll):Prop:=Q (Xf 5) [Xg 541 1,dC Tt (p+(↑1:Int)),Xp 0 3 [("wire",4)],Xo "read_items.<locals>.<lambda>",Xl (Xf 0),Xi [Xf 6],Xj [Xd [115,101,99,116,105,111,110],Xf 7,Xa (b_ wd)],Xg 214 8,dS 9 w 10,Xj [Xc (1:Int),Xc (2:Int)],Xk ys]
abbrev Oe(Q:Tq)(wd w:Ln)(ys:Ll)(Ti:Ln)(b:Int)(y:Ln):Prop:=Q (Xf 5) [Xg 541 1,dC Ti (b+(↑1:Int)),Xp 0 3 [("wire",4)],Xo "read_items.<locals>.<lambda>",Xl (Xf 0),Xi [Xf 6,Xf 11],Xj [Xd [115,101,99,116,105,111,110],Xf 7,Xa (b_ wd)],Xg 214 8,dS 9 w 10,Xj [Xc (1:Int),Xc (2:Int)],Xk ys,Xj [Xd y]]
abbrev Of(Q:Tq)(wd w:Ln)(ys:Ll)(Ti:Ln)(Ts:Int)(T2 Up:Ln)(S0:Ll):Prop:=Q (Xf 5) [Xg 541 1,dC Ti (Ts+(↑1:Int)),Xp 0 3 [("wire",4)],Xo "read_items.<locals>.<lambda>",Xl (Xf 0),Xi [Xf 6,Xf 11],Xj [Xd [115,101,99,116,105,111,110],Xf 7,Xa (b_ wd)],Xg 214 8,dS 9 w 10,Xj [Xc (1:Int),Xc (2:Int)],Xk ys,Xj [Xd [115,101,99,116,105,111,110],Xf 12,Xa (b_ T2)],Xg 214 13,dS 14 Up 15,Xj [],Xk S0]
abbrev Og(Q:Tq)(wd w:Ln)(ys:Ll)(Ti:Ln)(Ts:Int)(T2 Up:Ln)(S0:Ll):Prop:=Q (Xf 5) [Xg 541 1,dC Ti (Ts+(↑1:Int)),Xp 0 3 [("wire",4)],Xo "read_items.<locals>.<lambda>",Xl (Xf 0),Xi [Xf 6,Xf 11],Xj [Xd [115,101,99,116,105,111,110],Xf 7,Xa (b_ wd)],Xg 214 8,dS 9 w 10,Xj [Xc (1:Int),Xc (2:Int)],Xk ys,Xj [Xd [115,101,99,116,105,111,110],Xf 12,Xa (b_ T2)],Xg 214 13,dS 14 Up 15,Xj [Xc (1:Int),Xc (2:Int)],Xk S0]
abbrev Oh(Q:Tq)(R:Tr)(Tt:Ln)(p:Int)(wd w:Ln)(ys:Ll)(Ti:Ln)(UL:Int):Prop:= [Xp 0 1 [("wire",2)],Xo "read_items.<locals>.<lambda>",Xl (Xf 3),Xg 541 4,dC Tt (p+1)]= [Xp 0 1 [("wire",2)],Xo "read_items.<locals>.<lambda>",Xl (Xf 3),Xg 541 4,dC Ti UL]/\bj Ti UL/\j9 Ti UL (λ b=>∀(y:Ln),1<=1048576/\bj Ti b/\1<=1000/\bif cM Ti b [41] then Oe Q wd w ys Ti b y else False) (λ Ts T2 Up S0=>1<=1048576/\bj Ti Ts/\1<=1000/\bif cM Ti Ts [41] then Of Q wd w ys Ti Ts T2 Up S0 else False) (λ Ts T2 Up S0=>1<=1048576/\bj Ti Ts/\1<=1000/\bif cM Ti Ts [41] then Og Q wd w ys Ti Ts T2 Up S0 else False) (λ Ts=>∀(m:Ln),qB R Ti Ts m) λ b Ts=>∀(m:Ln),qC R Ti b Ts m
abbrev Oi(l:Ln)(a:Int)(Q:Tq)(R:Tr)(Tt:Ln)(Vr:Int):Prop:= [Xp 0 1 [("wire",2)],Xo "read_items.<locals>.<lambda>",Xl (Xf 3),Xg 541 4,dC l (a+(↑1:Int))]= [Xp 0 1 [("wire",2)],Xo "read_items.<locals>.<lambda>",Xl (Xf 3),Xg 541 4,dC Tt Vr]/\bj Tt Vr/\j9 Tt Vr (λ b=>∀(y:Ln),0<=1048576/\bj Tt b/\1<=1000/\bif cM Tt b [41] then N4 Q Tt b y else bj Tt b/\cM Tt b [32]=W8/\∃(Ti:Ln),∃(UL:Int),N8 Q R Tt b y Ti UL) (λ p wd w ys=>0<=1048576/\bj Tt p/\1<=1000/\bif cM Tt p [41] then N9 Q Tt p wd w ys else bj Tt p/\cM Tt p [32]=W8/\∃(Ti:Ln),∃(UL:Int),Oc Q R Tt p wd w ys Ti UL) (λ p wd w ys=>0<=1048576/\bj Tt p/\1<=1000/\bif cM Tt p [41] then Od Q Tt p wd w ys else bj Tt p/\cM Tt p [32]=W8/\∃(Ti:Ln),∃(UL:Int),Oh Q R Tt p wd w ys Ti UL) (λ p=>∀(m:Ln),qB R Tt p m) λ b p=>∀(m:Ln),qC R Tt b p m
abbrev Oj(l:Ln)(a:Int)(R:Tr):Prop:=R 5 [Xg 541 1,dC l a,Xp 0 3 [("wire",4)],Xo "read_items.<locals>.<lambda>",Xl (Xf 0),Xm 6,Xh [("what",Xd [97,32,108,105,115,116,32,105,115,32,109,105,115,115,105,110,103]),("at",Xc a)]]
def Ol(l:Ln)(a i:Int)(q:ab)(Q:Tq)(R:Tr):Prop:=bj l a/\1<=1000/\bif cM l a [40] then bj l (a+(↑1:Int))/\1<=1000/\bif cM l (a+(↑1:Int)) [41] then N1 l a Q else ∃(Tt:Ln),∃(Vr:Int),Oi l a Q R Tt Vr else Oj l a R
theorem Om(h:Ol l a i q Q R):aL (aN [(399,qw),(392,uc),(406,Ac),(100000+0,AH)]) (cU (fS (mt 52 22)) 5 W8 q (qt 1)) 60 (fB (mt 52 22)) ⟨[("read", .ob 2),("self", .ob 0)],mH l a⟩ (bg 5 Q) (λ k σ=>bL 5 k σ.objs R):=kq h
end
section
variable{w:aQ}{mg mb:Tm}{l v m:Ln}{a b i:Int}{Q:Tq}{R:Tr}
theorem On:bx w mg mb 525 AK:=by
 refine cI (n:=60) (bud:=11) ((((aX.nil.consL NY rfl).cons M' rfl (by kernel_rfl)).cons Aq rfl (by kernel_rfl)).cons ug rfl (by kernel_rfl)) (ba _) (fd:=ck vU) (body:=fB (mt 52 22)) (cA rfl) (by kernel_rfl) cH λ args objs Q R h=> ?_
 apply cJ h;intro a1 r h1;apply cJ h1;intro a2 r h2;apply cg h2;intro h3;apply fZ h3;intro h4;apply fZ h4;intro h5;revert h5;refine CH λ l a zq2 g h40 h41 b hit U' m1 m2 m3 hb41 hb32 b2 hit2 hab2 m4 hp Vi=> ?_;subst zq2;have up:∀x,0<=x->bj l x:=λ x hx=>⟨g.1,hx,g.2.2⟩;have g2:=g.2.1;exact⟨_,qt 1,cT ["self", "read"] (by kernel_rfl) (fK λ _ _=>rfl),Om (i:=0) ⟨g,by decide,bN h40 ⟨up _ (by lia),by decide,cn h41 ⟨l,a+1,rfl,up _ (by lia),b,hit,U', .inr ⟨m1,m2,m3,λ y=>⟨by decide,up _ (by lia),by decide,cn hb41 ⟨up _ (by lia),hb32,l,b+1,rfl,up _ (by lia),b2,hit2,hab2,
  .inl ⟨m4,hp,Vi.mono (λ p w ys q1 q2 h=>⟨by decide,up _ (by lia),by decide,bN h.1 (h.2 y)⟩) (λ p w ys q1 q2 h=>⟨by decide,up _ (by lia),by decide,bN h.1 (h.2 y)⟩) (λ p h=>h) (λ p h=>h) λ r h1 h2=>oC h1 h2⟩⟩⟩⟩⟩⟩⟩⟩
end
end Mine.Lake
open PySem.Calls
namespace Mine.Lake
noncomputable def lE(t:List (Nat×Nat×Nat))(l:Ln)(a:Int):List AO:= [.tab t, .inst 541 2, .dic [("data", .by_ l),("at", .num a)]]
noncomputable def qD(l:Ln)(a:Int):List AO:=lE [(425,29,3)] l a++ [.cod qA]
def Oo(objs:La)(f:List Nat->Int->Prop):Prop:=∃l a,objs=lE [] l a/\f l a
noncomputable def Oq(args:List AV)(objs:La):List Nat:=0::dV args objs
noncomputable def Os:List (List Nat):= [("FAST" :ab).cps.toList,("ALL" :ab).cps.toList,("FULL" :ab).cps.toList]
def eE(l:Ln)(a:Int)(TS0 TS1 Uz Uy:Int->List Nat->List Nat->List (List Nat)->Prop)(TN:Int->Prop)(TD:Int->Int->Prop)(RN:Int->Prop)(RD:Int->Int->Prop):Prop:=cond (W_ (aP l a=40)) (uk l a TS0 TS1 TN TD)
 (∃b,IT l a b/\a<b/\cw (eN l a b) jh=W8/\aP l b=91/\gK l b (λ p w ys=>Uz p (eN l a b) w ys) (λ p w ys=>Uy p (eN l a b) w ys) RN (RD b))
def Ot(Q:Tq)(R:Tr)(l:Ln)(a:Int):Prop:=bj l a/\eE l a
 (λ p wd w ys=>∀y,Q (.ob 4) (qD l (p+1)++(.lst [.ob 5, .ob 6]:: .tup [.st y]:: .tup [.st eT, .ob 7, .bo (b_ wd)]::d_ 7 W7 w ys)))
 (λ p wd w ys=>∀y,Q (.ob 4) (qD l (p+1)++(.lst [.ob 5, .ob 6]:: .tup [.st y]:: .tup [.st eT, .ob 7, .bo (b_ wd)]::d_ 7 (W6 (1,2)) w ys)))
 (λ p wd w ys=>Q (.ob 3) (lE [] l p++(.lst [.ob 4]:: .tup [.st eT, .ob 5, .bo (b_ wd)]::d_ 5 W7 w ys)))
 (λ p wd w ys=>Q (.ob 3) (lE [] l p++(.lst [.ob 4]:: .tup [.st eT, .ob 5, .bo (b_ wd)]::d_ 5 (W6 (1,2)) w ys)))
 (λ p=>∀m,R 4 (e_ (qD l p) 4 m p)) (λ b p=>∀m,R 4 (j8 (qD l b) 4 m p)) (λ p=>∀m,R 3 (e_ (lE [] l p) 3 m p)) (λ b p=>∀m,R 3 (j8 (lE [] l b) 3 m p))
noncomputable def AL:aH:=⟨Oq,λ as os Q R=>cz as λ v r=>bM r (fb 1 v (Oo os (Ot Q R))),13, [585],W8⟩
noncomputable def Ou(σ:AS):AV:=match σ.loc.lookup ("first" :ab) with
 | some (.num f)=>match σ.objs with
  | _::_:: .dic [(_, .by_ l),(_, .num b)]::_=> .by_ ((l.take b.toNat).drop f.toNat)
  | _=> .non
 | _=> .non
noncomputable def Ov(k i:Nat)(j:Nat):Option Nat:=match aO j k with
 | true=>W6 i
 | false=>W7
noncomputable abbrev AM:fE:=⟨λ _=>W7,λ _=> .vs,λ _ σ=>(match Ou σ with
 | .by_ x=>W6 (oo σ.objs λ i=> [x.getD i 0])
 | _=>W7),λ _ _=>W7,Ov 425029 0,λ _=>0⟩
end Mine.Lake
open PySem.Calls
namespace Mine.Lake
section
abbrev Ow(Q:Tq)(Tt:Ln)(p:Int)(wd w:Ln)(ys:Ll)(y:Ln):Prop:=W9=W9/\Q (Xf 4) [Xq [(425,29,3)],Xg 541 2,dC Tt (p+1),Xo "read_items.<locals>.<lambda>",Xi [Xf 5,Xf 6],Xj [Xd y],Xj [Xd [115,101,99,116,105,111,110],Xf 7,Xa (b_ wd)],Xg 214 8,dS 9 w 10,Xj [],Xk ys]
abbrev Ox(Q:Tq)(Tt:Ln)(p:Int)(wd w:Ln)(ys:Ll)(y:Ln):Prop:=W9=W9/\Q (Xf 4) [Xq [(425,29,3)],Xg 541 2,dC Tt (p+1),Xo "read_items.<locals>.<lambda>",Xi [Xf 5,Xf 6],Xj [Xd y],Xj [Xd [115,101,99,116,105,111,110],Xf 7,Xa (b_ wd)],Xg 214 8,dS 9 w 10,Xj [Xc (1:Int),Xc (2:Int)],Xk ys]
abbrev Oy(R:Tr)(Tt:Ln)(p:Int)(m:Ln):Prop:=R 4 [Xq [(425,29,3)],Xg 541 2,dC Tt p,Xo "read_items.<locals>.<lambda>",Xm 5,dW m p]
abbrev Oz(R:Tr)(Tt:Ln)(b p:Int)(m:Ln):Prop:=R 4 [Xq [(425,29,3)],Xg 541 2,dC Tt b,Xo "read_items.<locals>.<lambda>",Xn 5,dW m p]
abbrev OA(l:Ln)(a:Int)(Q:Tq)(R:Tr)(Tt:Ln)(Vr:Int):Prop:= [Xg 541 1,dC l a,Xp 0 3 [("wire",4)],Xo "read_items.<locals>.<lambda>",Xl (Xf 0)]= [Xg 541 1,dC Tt Vr,Xp 0 3 [("wire",4)],Xo "read_items.<locals>.<lambda>",Xl (Xf 0)]/\bj Tt Vr/\uk Tt Vr (λ p wd w ys=>∀(y:Ln),Ow Q Tt p wd w ys y) (λ p wd w ys=>∀(y:Ln),Ox Q Tt p wd w ys y) (λ p=>∀(m:Ln),Oy R Tt p m) λ b p=>∀(m:Ln),Oz R Tt b p m
abbrev OB(l:Ln)(a b:Int)(S':Nat)(y z:Ll):Prop:=Eq (α:=List (Nat×Nat×Nat)) [] []/\l=l/\b=b/\y++ [[au (↑(ay (a_ l a b) S' 0):Int)]]=z/\z=bT (λ i=> [ay (dJ (au a) (eK (au b) l)) i 0]) (S'+1)
abbrev OC(l:Ln)(Q:Tq)(p:Int)(wd w:Ln)(ys:Ll):Prop:=Q (Xf 3) [Xq [],Xg 541 2,dC l p,Xi [Xf 4],Xj [Xd [115,101,99,116,105,111,110],Xf 5,Xa (b_ wd)],Xg 214 6,dS 7 w 8,Xj [],Xk ys]
abbrev OD(l:Ln)(Q:Tq)(p:Int)(wd w:Ln)(ys:Ll):Prop:=Q (Xf 3) [Xq [],Xg 541 2,dC l p,Xi [Xf 4],Xj [Xd [115,101,99,116,105,111,110],Xf 5,Xa (b_ wd)],Xg 214 6,dS 7 w 8,Xj [Xc (1:Int),Xc (2:Int)],Xk ys]
abbrev OE(l:Ln)(a:Int)(Q:Tq)(R:Tr):Prop:=bj l a/\j9 l a (λ Vc=>∀(SS:Ln),Q (Xf 3) [Xq [],Xg 541 2,dC l Vc,Xi [Xf 4],Xj [Xd SS]]) (λ p wd w ys=>OC l Q p wd w ys) (λ p wd w ys=>OD l Q p wd w ys) (λ p=>∀(m:Ln),R 3 [Xq [],Xg 541 2,dC l p,Xm 4,dW m p]) λ Vc p=>∀(m:Ln),R 3 [Xq [],Xg 541 2,dC l Vc,Xn 4,dW m p]
abbrev AN(l:Ln)(a:Int)(Q:Tq)(R:Tr)(y:Ll):Prop:=bq y+aa y<=1048576/\aa (ae y)<=500000/\(∀(c:Nat),c∈ae y->c<=1114111)/\bif cw (dK bI (ae y)) [[70,65,83,84], [65,76,76], [70,85,76,76]] then False else OE l a Q R
abbrev OF(l:Ln)(a:Int)(Q:Tq)(R:Tr)(b:Int):Prop:=aa (a_ l a b)<=1048576/\(∃(y:Ll),Eq (α:=List (Nat×Nat×Nat)) [] []/\l=l/\b=b/\ []=y/\y= [])/\(∀(S':Nat) (y:Ll),S'<aa (a_ l a b)->y=bT (λ i=> [ay (dJ (au a) (eK (au b) l)) i 0]) S'->0<=(↑(ay (a_ l a b) S' 0):Int)/\(↑(ay (a_ l a b) S' 0):Int)<=1114111/\∃(z:Ll),OB l a b S' y z)/\∀(y:Ll),y=bT (λ i=> [ay (dJ (au a) (eK (au b) l)) i 0]) (aa (a_ l a b))->AN l a Q R y
def OG(l:Ln)(a i:Int)(Q:Tq)(R:Tr):Prop:=bj l a/\bif W_ (aP l a= 40) then bG 0=bG 0/\∃(Tt:Ln),∃(Vr:Int),OA l a Q R Tt Vr else bj l a/\∀(b:Int),a<=b/\(b<=(aa l:Int)∨b=a)/\(∀(j:Int),a<=j->j<b->eC (↑(ay l (au j) 0):Int)=W8)/\(b<(aa l:Int)->eC (↑(ay l (au b) 0):Int)=W9)->OF l a Q R b
theorem OH(h:OG l a i Q R):aL (aN [(385,oy),(525,AK),(420,ud),(176,mC),(583,uj)]) ⟨fS (tp 64),4, [("wire",3)], [585],W8,W7,("read_items" :ab)++ ".<locals>.",W6 (587,0),AM⟩ 60 (fB (tp 64)) ⟨[],lE [] l a++ [.cel (.ob 1)]⟩ (bg 3 Q) (λ k σ=>bL 3 k σ.objs R):=kq h
end
section
variable{w:aQ}{mg mb:Tm}{l v m:Ln}{a b i:Int}{Q:Tq}{R:Tr}
theorem OI(h:cw x jh=W8):cw x Os=W9:=by
 have:x= ("BODY" :ab).cps.toList∨x= ("BODY.PEEK" :ab).cps.toList:=by
  unfold jh cw cw cw at h;rw[Bool.or_false,Bool.or_eq_true]at h;rcases h with h | h
  ·exact .inl (fW h).symm
  ·exact .inr (fW h).symm
 rcases this with rfl | rfl <;> decide+kernel
theorem OJ:bx w mg mb 588 AL:=by
 refine JB (n:=60) (bud:=12) (fd:=ck v5) (body:=fB (tp 64)) (x:= "wire") (code:=W6 (587,0)) W9 ["wire"] (by kernel_rfl) (((((aX.nil.cons AJ rfl (by kernel_rfl)).cons tI rfl (by kernel_rfl)).cons Ar rfl (by kernel_rfl)).cons On rfl (by kernel_rfl)).cons qy rfl (by kernel_rfl)) (ba _)
  (cA rfl) ?_ (λ _=>rfl) (by kernel_rfl) (by kernel_rfl) (λ _=>by kernel_rfl) λ args objs Q R h=> ?_
 ·intro p hp
  injection hp with zq;subst zq
  exact⟨rfl,585,rfl,λ h hi=>yF hi⟩
 ·apply cJ h;intro a1 r h1
  apply cg h1;intro h2;apply fZ h2;intro h3;revert h3;refine lQ λ l a zq2 g hq=> ?_;subst zq2;refine⟨.ob 1,AM,rfl,OH (i:=0) ⟨g, ?_⟩⟩;unfold eE at hq;cases hp:W_ (aP l a=40) with
  | true=>rw[hp]at hq;exact⟨rfl,l,a,rfl,g,by
    revert hq;refine uW λ t1 t2 b t3 t4 t5 t6 t7 t8 t9 b2 u1 u2 u3 u4 u5=> ?_;exact⟨t1,t2,b,t3,t4,t5,t6,t7,t8,t9,b2,u1,u2,u3,u4,u5.mono (λ p w ys _ _ h=>⟨h.1,λ y=>⟨rfl,h.2 y⟩⟩) (λ p w ys _ _ h=>⟨h.1,λ y=>⟨rfl,h.2 y⟩⟩) (λ p h=>h) (λ p h=>h) λ r h1 h2=>oC h1 h2⟩⟩
  | false=>
   rw[hp]at hq;revert hq;refine ro λ b hit U' hm h91 Vi=> ?_;have g1:=g.1;have g2:=g.2.1;have hlt:∀c∈a_ l a b,c<256:=λ c hc=>g.2.2 c (lM (kn hc));have U9:(a_ l a b).length<=500000:=by unfold a_;rw[gQ,iF];exact fk (Nat.sub_le _ _) (fk (jG _ _) (by lia))
   refine⟨g,λ b' hb'=> ?_⟩;obtain rfl:=As hit hb';refine⟨by lia,⟨[],rfl,rfl,rfl,rfl,rfl⟩,λ i y hi hy=> ?_,λ y hy=> ?_⟩
   ·subst hy
    exact⟨(j7 hlt hi).1,(j7 hlt hi).2,_,rfl,rfl,rfl,rfl,rfl⟩
   ·refine cE (ow (x:=a_ l a b) hy) λ e1 e2 e3=> ?_
    delta AN;rw[e2,e3,e1];exact⟨by lia,U9,λ c hc=>by have:=hlt c hc;lia,cn (OI hm) ⟨g,b,hit,U', .inl ⟨hm,h91,Vi⟩⟩⟩
end
end Mine.Lake
open PySem.Calls
namespace Mine.Lake
noncomputable def mI:aH:=⟨hZ,λ as os Q _=>cz as λ v r=>bM r (iz v λ v=>iY os (v.length<=500000/\(∀c∈v,c<256)/\Q (.by_ v) [])),1, [],W8⟩
noncomputable abbrev AP(v:Ln):fE:=⟨λ _=>W7,λ _=> .vs,λ _ σ=>W6 (zl σ.objs λ i=>(v.getD i 0:Nat)),λ _ _=>W7,λ _=>W7,λ _=>0⟩
noncomputable def oD(x y z:Int):List AO:= [.lst [.num x, .num y, .num z]]
def dR(x y z:Int):Prop:=0<=x/\0<=y/\y<1000000007/\0<=z/\z<=1000
def i0(k:Int)(f:Int->Prop):Prop:=cond (W_ (k=1)) (f 0) (cond (W_ (k=2)) (f 0/\f 1) (cond (W_ (k=3)) (f 0/\(f 1/\f 2)) (∀d,0<=d->d<k->f d)))
theorem OL(h:i0 k f)(h0:0<=d)(h1:d<k):f d:=by
 unfold i0 at h;refine cF (b:=W_ (k=1)) (λ c1=> ?bt) λ c1=> ?bf
 case bt=>
  rw[c1]at h;have:=of_decide_eq_true c1;obtain rfl:d=0:=by lia
  exact h
 case bf=>
  rw[c1]at h;refine cF (b:=W_ (k=2)) (λ c2=> ?bt) λ c2=> ?bf
  case bt=>
   rw[c2]at h;have:=of_decide_eq_true c2;have:d=0∨d=1:=by lia
   revert this;refine fz (λ zr=> ?_) (λ zr=> ?_)
   ·subst zr
    exact h.1
   ·subst zr
    exact h.2
  case bf=>
   rw[c2]at h;refine cF (b:=W_ (k=3)) (λ c3=> ?bt) λ c3=> ?bf
   case bt=>
    rw[c3]at h;have:=of_decide_eq_true c3;have:d=0∨d=1∨d=2:=by lia
    revert this;refine rt (λ zr=> ?_) (λ zr=> ?_) (λ zr=> ?_)
    ·subst zr
     exact h.1
    ·subst zr
     exact h.2.1
    ·subst zr
     exact h.2.2
   case bf=>rw[c3]at h;exact h d h0 h1
def OM(objs:La)(f:Int->Int->Int->Prop):Prop:=∃x y z,objs=oD x y z/\f x y z
def ON(k:Int)(Q:Tq)(x y z:Int):Prop:=dR x y z/\1<=k/\k<=1000/\i0 k λ d=>∀x' z',0<=x'->0<=z'->z'<=z+1->Q (.num d) (oD x' y z')
noncomputable def j_:aH:=⟨mG,λ as os Q _=>cz as λ v r=>cz r λ u r=>bM r (fb 0 v (gq u λ k=>OM os (ON k Q))),1, [],W8⟩
abbrev Lx:=List Int×Obj
noncomputable def qE(xs:Lx):List AO:= [.lstR xs.1 xs.2]
noncomputable def AQ:aH:=⟨mG,λ as os Q _=>cz as λ v r=>bM r (fb 0 v (∃xs:List Int×Obj,os=qE xs/\xs.1.length<=63/\∀x y z,dR x y z->z=0->Q (.ob 1) (qE xs++oD x y z))),1, [],W8⟩
noncomputable def AR(xs:Lx):eS:=⟨Int×Int,λ x=>⟨[("script", .ob 0),("digits", .num x.1),("seed", .num x.2)],qE xs⟩,λ _ x=>0<=x.1/\0<=x.2/\x.2<1000000007,λ _=>0⟩
end Mine.Lake
open PySem.Calls
namespace Mine.Lake
section
def OO(v:Ln)(xs:List Int)(x y z k:Int)(q:ab)(Q:Tq)(R:Tr):Prop:=aa v<=1048576/\(∃(SS:List Int), []=SS/\SS= [])/\(∀(i:Nat) (SS:List Int),i<aa v->SS=bT (λ i=>(↑(ay v i 0):Int)) i->1=1/\∃(TS:List Int),SS++ [(↑(ay v i 0):Int)]=TS/\TS=bT (λ i=>(↑(ay v i 0):Int)) (i+1))/\∀(SS:List Int),SS=bT (λ i=>(↑(ay v i 0):Int)) (aa v)->aa SS<=1048576/\(∀(S3:Int),S3∈SS->0<=S3/\S3<256)/\Q (Xe (dK au SS)) []
theorem OP(h:OO v xs x y z k q Q R):aL (aN []) (cU (fS (tp 69)) 0 W8 q (AP v)) 60 (fB (tp 69)) ⟨[("text", .st v)], []⟩ (bg 0 Q) (λ k σ=>bL 0 k σ.objs R):=kq h
abbrev OQ(y z k:Int)(Q:Tq):Prop:= (-3:Int)<=2/\(2:Int)<3/\3<=1048576/\(0:Int)<=2/\(2:Int)<3/\3<=1048576/\(-3:Int)<=1/\(1:Int)<3/\3<=1048576/\(-3:Int)<=2/\(2:Int)<3/\3<=1048576/\IntMulOk (130003:Int) (z+1)/\(0:Int)<=3/\(3:Int)<=1000000/\Int.natAbs (y+130003*(z+1))<18446744073709551616/\((1000000007:Int)= 0->False)/\(0:Int)<=0/\(0:Int)<3/\3<=1048576/\(-3:Int)<=0/\(0:Int)<3/\3<=1048576/\(k= 0->False)/\(-3:Int)<=0/\(0:Int)<3/\3<=1048576/\(k= 0->False)/\rf (Int.fmod ((y+130003*(z+1)) ^ au (3:Int)) (1000000007:Int)) k=W9/\(0:Int)<=0/\(0:Int)<3/\3<=1048576/\Q (Xc (Int.fmod (Int.fmod ((y+130003*(z+1)) ^ au (3:Int)) (1000000007:Int)) k)) [Xi [Xc (Int.fdiv (Int.fmod ((y+130003*(z+1)) ^ au (3:Int)) (1000000007:Int)) k),Xc y,Xc (z+1)]]
abbrev OR(x y z k:Int)(Q:Tq):Prop:= (-3:Int)<=0/\(0:Int)<3/\3<=1048576/\(k= 0->False)/\(-3:Int)<=0/\(0:Int)<3/\3<=1048576/\(k= 0->False)/\rf x k=W9/\(0:Int)<=0/\(0:Int)<3/\3<=1048576/\Q (Xc (Int.fmod x k)) [Xi [Xc (Int.fdiv x k),Xc y,Xc z]]
def OS(v:Ln)(xs:List Int)(x y z k:Int)(q:ab)(Q:Tq)(R:Tr):Prop:= (-3:Int)<=0/\(0:Int)<3/\3<=1048576/\bif W_ (x= 0) then OQ y z k Q else OR x y z k Q
theorem OT(h:OS v xs x y z k q Q R):aL (aN []) (cU (fS (tp 68)) 1 W8 q aS) 60 (fB (tp 68)) ⟨[("many", .num k),("tape", .ob 0)],oD x y z⟩ (bg 1 Q) (λ k σ=>bL 1 k σ.objs R):=kq h
abbrev OU(xs:Lx)(i:Nat)(SS TS:Int×Int):Prop:=xs.fst=xs.fst/\xs.snd=xs.snd/\(SS.fst*4099+if ay (af W7 (W6 (40:Int)) xs.fst) i (0:Int)<0 then -ay (af W7 (W6 (40:Int)) xs.fst) i (0:Int) else ay (af W7 (W6 (40:Int)) xs.fst) i (0:Int))=TS.fst/\Int.fmod (SS.snd*523+ay (af W7 (W6 (40:Int)) xs.fst) i (0:Int)) 1000000007=TS.snd/\0<=TS.fst/\0<=TS.snd/\TS.snd<1000000007
def OV(v:Ln)(xs:Lx)(x y z k:Int)(q:ab)(Q:Tq)(R:Tr):Prop:=bB W7 (W6 (40:Int)) (aa xs.fst)/\aa (af W7 (W6 (40:Int)) xs.fst)<=1048576/\(∃(S3:Int×Int),xs.fst=xs.fst/\xs.snd=xs.snd/\0=S3.fst/\0=S3.snd/\0<=S3.fst/\0<=S3.snd/\S3.snd<1000000007)/\(∀(i:Nat) (SS:Int×Int),i<aa (af W7 (W6 (40:Int)) xs.fst)->0<=SS.fst/\0<=SS.snd/\SS.snd<1000000007->IntMulOk SS.fst (4099:Int)/\IntMulOk SS.snd (523:Int)/\((1000000007:Int)= 0->False)/\∃(TS:Int×Int),OU xs i SS TS)/\∀(SS:Int×Int),0<=SS.fst/\0<=SS.snd/\SS.snd<1000000007->Q (Xf 1) [Xr xs.fst xs.snd,Xi [Xc SS.fst,Xc SS.snd,Xc (0:Int)]]
theorem OW(h:OV v xs x y z k q Q R):aL (aN []) (cU (fS (tp 67)) 1 W8 q (fv (λ _=>W6 (AR xs)) .vs)) 60 (fB (tp 67)) ⟨[("script", .ob 0)],qE xs⟩ (bg 1 Q) (λ k σ=>bL 1 k σ.objs R):=kq h
end
section
variable{w:aQ}{mg mb:Tm}{l v m:Ln}{x y z k:Int}{Q:Tq}{R:Tr}
theorem um:bx w mg mb 608 mI:=by
 refine cI (n:=60) (bud:=0) aX.nil (ba _) (fd:=ck v9) (body:=fB (tp 69)) (cA rfl) (by kernel_rfl) cH λ args objs Q R h=> ?_
 apply cJ h;intro v r h1;apply cg h1;intro h2;apply jf h2;intro v h3;apply jx h3;refine du λ hl hc hq=> ?_;refine⟨_,AP v,cT ["text"] (by kernel_rfl) (d8 λ v=>rfl),OP (xs:= []) (x:=0) (y:=0) (z:=0) (k:=0) ⟨by lia,⟨[],rfl,rfl⟩,λ i y hi hy=> ?_,λ y hy=> ?_⟩⟩
 ·subst hy
  exact⟨rfl,_,rfl,rfl⟩
 ·rw[oq (g:=λ c:Nat=>(c:Int))]at hy
  subst hy;refine⟨by rw[dq];lia,λ x hx=> ?_, ?_⟩
  ·refine aj (cZ.mp hx) λ c Wb zq2=> ?_
   subst zq2;have:=hc c Wb;lia
  ·rw[List.map_map]
   have:v.map (au ∘ λ c:Nat=>(c:Int))=v:=by
    rw[show (au ∘ λ c:Nat=>(c:Int))=id from funext λ c=>Int.toNat_natCast c,List.map_id]
   rw[this];exact hq
theorem AU(h1:1<=k)(h2:k<=1000):rf x k=W9:=by
 have h3:k.natAbs.log2<10:= (Nat.log2_lt (by lia)).mpr (by show k.natAbs<1024;lia)
 unfold rf;have h4:(k==0)=W9:=beq_eq_false_iff_ne.mpr (by exact Int.ne_of_gt ‹_›)
 simp only[h4];rw[show W_ ((if W9=W8 then 0 else k.natAbs.log2 / 30+1)>300)=W9 from decide_eq_false (by simp;lia)]
 rfl
theorem AW:bx w mg mb 603 j_:=by
 refine cI (n:=60) (bud:=0) aX.nil (ba _) (fd:=ck v8) (body:=fB (tp 68)) (cA rfl) (by kernel_rfl) cH λ args objs Q R h=> ?_
 apply cJ h;intro a1 r h1;apply cJ h1;intro a2 r h2;apply cg h2;intro h3;apply fZ h3;intro h4;apply j3 h4;intro k h5;revert h5;refine kE λ x y z Tp zq4 k1 k2 hq=> ?_;subst Tp;obtain⟨g1,g2,g3,g4,g5⟩:=zq4;have hk:k≠0:=by exact Int.ne_of_gt ‹_›
 refine⟨_,aS,cT ["tape", "many"] (by kernel_rfl) (fK λ _ _=>rfl),OT (v:= []) (xs:= []) ⟨by decide,by decide,by decide, ?_⟩⟩
 have fin:∀u:Int,0<=u->∀z',0<=z'->z'<=z+1->Q (.num (u.fmod k)) (oD (u.fdiv k) y z'):=λ u hu z' h0 h1=>
  OL hq (Int.fmod_nonneg_of_pos _ (by assumption)) (Int.fmod_lt_of_pos _ (by assumption)) _ _ (Int.fdiv_nonneg hu (by exact Int.le_of_lt ‹_›)) h0 h1
 by_cases c:x=0
 ·refine bN (decide_eq_true c) ⟨by decide,by decide,by decide,by decide,by decide,by decide,by decide,by decide,by decide,by decide,by decide,by decide,IntMulOk.of_left (by decide+kernel),by decide,by decide,by lia,by decide,by decide,by decide,by decide,by decide,by decide,by decide,hk,by decide,by decide,by decide,hk,AU k1 k2,by decide,by decide,by decide, ?_⟩
  exact fin _ (Int.fmod_nonneg_of_pos _ (by decide)) _ (by lia) (gg _)
 ·exact cn (decide_eq_false c) ⟨by decide,by decide,by decide,hk,by decide,by decide,by decide,hk,AU k1 k2,by decide,by decide,by decide,fin _ g1 _ g4 (by lia)⟩
theorem OX:bx w mg mb 596 AQ:=by
 refine cI (n:=60) (bud:=0) aX.nil (ba _) (fd:=ck v7) (body:=fB (tp 67)) (cA rfl) (by kernel_rfl) cH λ args objs Q R h=> ?_
 apply cJ h;intro a1 r h1;apply cg h1;intro h2;apply fZ h2;refine o9 λ xs zq2 hl hq=> ?_;subst zq2;have UJ:(af W7 (W6 (40:Int)) xs.1).length<=63:=by
  show (xs.1.take _).length<=63;rw[iF];lia
 refine⟨_,fv (λ _=>W6 (AR xs)) .vs,cT ["script"] (by kernel_rfl) (d8 λ _=>rfl),OW (v:= []) (x:=0) (y:=0) (z:=0) (k:=0) ⟨⟨trivial,by decide,by lia⟩,by lia,⟨(0,0),pn ⟨by decide,by decide,by decide⟩⟩,λ i y hi hy=> ?_,λ y hy=> ?_⟩⟩
 ·revert hy
  refine du λ y1 y2 y3=> ?_;refine⟨IntMulOk.of_right (by decide+kernel),IntMulOk.of_right (by decide+kernel),by decide,(_,_),pn ⟨?_,Int.fmod_nonneg_of_pos _ (by decide),Int.fmod_lt_of_pos _ (by decide)⟩⟩
  generalize (af W7 (W6 (40:Int)) xs.1).getD i 0=c
  show 0<=y.1*4099+if c<0 then -c else c
  split <;> lia
 ·exact hq _ _ _ ⟨hy.1,hy.2.1,hy.2.2,by decide,by decide⟩ rfl
end
end Mine.Lake
open PySem.Calls
namespace Mine.Lake
noncomputable def qL:ab:= "law.<locals>.<lambda>"
noncomputable def oE(oc ft:Ln):List AO:= [.lam 1 1 [("octets",2),("front",3)], .cod qL, .cel (.by_ oc), .cel (.st ft)]
def AX(Q:Tq)(R:Tr)(oc ft:Ln):Prop:=oc.length<=500000/\ft.length<=500000/\(∀x∈oc,x<256)/\
 cond (bb oc ft.length oc.length).ok (Q (.st (bb oc ft.length oc.length).acc) (oE oc ft)) (∀m,R 4 (e_ (oE oc ft) 4 m (bb oc ft.length oc.length).spot))
noncomputable def oF:aH:=⟨mG,λ as os Q R=>dm as λ r=>bM r (∃oc ft,os=oE oc ft/\AX Q R oc ft),5, [],W8⟩
noncomputable def mJ(v:Ln):List AO:= [.lam 2 1 [("text",2)], .cod qL, .cel (.st v)]
def gL(v:Ln)(Uz Uy:List Nat->List (List Nat)->Prop)(RP:Int->Prop):Prop:=
 (∃p,p<v.length/\126<v.getD p 0/\(∀j,j<p->v.getD j 0<=126)/\RP p)∨
  ((∀c∈v,c<=126)/\∃k b r,cond r.ok ((ff v W7 k b r/\Uz ((a_ v (dG k W7) b).map bI) r.names)∨(ff v (W6 (1,2)) k b r/\Uy ((a_ v (dG k (W6 (1,2))) b).map bI) r.names)) ((∃o,ff v o k b r)/\RP r.spot))
def AY(Q:Tq)(R:Tr)(v:Ln):Prop:=v.length<=500000/\gL v (λ w ys=>Q (.ob 3) (mJ v++d_ 3 W7 w ys)) (λ w ys=>Q (.ob 3) (mJ v++d_ 3 (W6 (1,2)) w ys)) (λ p=>∀m,R 3 (e_ (mJ v) 3 m p))
noncomputable def oG:aH:=⟨mG,λ as os Q R=>dm as λ r=>bM r (∃v,os=mJ v/\AY Q R v),9, [],W8⟩
end Mine.Lake
open PySem.Calls
namespace Mine.Lake
section
abbrev OY(oc ft:Ln)(R:Tr)(m:Str):Prop:=R 4 [Xp 1 1 [("octets",2),("front",3)],cW,Xl (Xe oc),Xl (Xd ft),Xm 5,Xh [("what",Xd m.cps.toList),("at",Xc (bb oc (aa ft:Int) (aa oc:Int)).spot)]]
def OZ(oc ft v:Ln)(q:ab)(Q:Tq)(R:Tr):Prop:=aa ft<=1048576/\aa oc<=500000/\aV oc (aa ft:Int) (aa oc:Int)/\aa oc<=500000/\bif (bb oc (aa ft:Int) (aa oc:Int)).ok then Q (Xd (bb oc (aa ft:Int) (aa oc:Int)).acc) [Xp 1 1 [("octets",2),("front",3)],cW,Xl (Xe oc),Xl (Xd ft)] else ∀(m:Str),OY oc ft R m
theorem O0(h:OZ oc ft v q Q R):bh (aN [(265,tF),(155,qv)]) ⟨(bG 1).scope,4, [("octets",2),("front",3)], [],W8,W7,q,W7,aS⟩ 60 (bG 1).body ⟨[],oE oc ft⟩ (λ a σ=>iN 4 a σ.objs Q) (λ k σ=>bL 4 k σ.objs R):=kq h
abbrev O1(v:Ln)(R:Tr)(p:Nat):Prop:=p<aa v/\126<ay v p 0/\(∀(j:Nat),j<p->ay v j 0<=126)/\∀(m:Ln),R 3 [Xp 2 1 [("text",2)],cW,Xl (Xd v),Xm 4,dW m (↑p:Int)]
abbrev O2(v:Ln)(Q:Tq)(k b:Int)(r:eB):Prop:=ff v W7 k b r/\Q (Xf 3) [Xp 2 1 [("text",2)],cW,Xl (Xd v),Xg 214 4,Xh [("path",Xf 5),("word",Xd (dK bI (a_ v (dG k W7) b))),("names",Xf 6),("partial",W')],Xj [],Xk r.names]
abbrev O3(v:Ln)(Q:Tq)(k b:Int)(r:eB):Prop:=ff v (W6 ((1:Int),(2:Int))) k b r/\Q (Xf 3) [Xp 2 1 [("text",2)],cW,Xl (Xd v),Xg 214 4,Xh [("path",Xf 5),("word",Xd (dK bI (a_ v (dG k (W6 ((1:Int),(2:Int)))) b))),("names",Xf 6),("partial",W')],Xj [Xc (1:Int),Xc (2:Int)],Xk r.names]
abbrev O4(v:Ln)(R:Tr)(k b:Int)(r:eB):Prop:= (∃(o:Option (Int×Int)),ff v o k b r)/\∀(m:Ln),R 3 [Xp 2 1 [("text",2)],cW,Xl (Xd v),Xm 4,dW m r.spot]
def O5(oc ft v:Ln)(q:ab)(Q:Tq)(R:Tr):Prop:=aa v<=500000/\((∃(p:Nat),O1 v R p)∨(∀(c:Nat),c∈v->c<=126)/\∃(k:Int),∃(b:Int),∃(r:eB),bif r.ok then O2 v Q k b r∨O3 v Q k b r else O4 v R k b r)
theorem O6(h:O5 oc ft v q Q R):bh (aN [(293,t_)]) ⟨(bG 2).scope,3, [("text",2)], [],W8,W7,q,W7,aS⟩ 60 (bG 2).body ⟨[],mJ v⟩ (λ a σ=>iN 3 a σ.objs Q) (λ k σ=>bL 3 k σ.objs R):=kq h
end
section
variable{w:aQ}{mg mb:Tm}{Q:Tq}{R:Tr}
theorem O7:jX w mg mb 1 oF:=by
 refine qn (n:=60) (bud:=4) ((aX.nil.cons zZ rfl (by kernel_rfl)).cons zi rfl (by kernel_rfl)) (ba _) (by kernel_rfl) (by kernel_rfl) (by kernel_rfl) (by kernel_rfl) (λ _ _ _ _=>rfl) λ kf objs Q R h=> ?_
 refine aj (qp (as:= [.ob kf]) (f:=λ r=>bM r (∃oc ft,objs=oE oc ft/\AX Q R oc ft)) h) λ r hr h1=> ?_;cases hr;refine CO (n8 h1) λ _ oc ft Tp h2 h3 h4 h5=> ?_;subst Tp;refine⟨1, [("octets",2),("front",3)],aS,rfl,rfl,O0 (v:= []) ⟨by lia,h2,⟨by lia,by exact eV _,gg _,h4⟩,h2, ?_⟩⟩
 cases TG:(bb oc ft.length oc.length).ok with
 | true=>rw[TG]at h5;exact h5
 | false=>rw[TG]at h5;exact λ m=>h5 m.cps.toList
theorem O8:jX w mg mb 2 oG:=by
 refine qn (n:=60) (bud:=8) (aX.nil.cons z_ rfl (by kernel_rfl)) (ba _) (by kernel_rfl) (by kernel_rfl) (by kernel_rfl) (by kernel_rfl) (λ _ _ _ _=>rfl) λ kf objs Q R h=> ?_
 refine aj (qp (as:= [.ob kf]) (f:=λ r=>bM r (∃v,objs=mJ v/\AY Q R v)) h) λ r hr h1=> ?_;cases hr;refine rl (n8 h1) λ _ v zq2 h2 h3=> ?_;subst zq2;exact⟨1, [("text",2)],aS,rfl,rfl,O6 (oc:= []) (ft:= []) ⟨h2,h3⟩⟩
end
end Mine.Lake
open PySem.Calls
namespace Mine.Lake
noncomputable def qF(args:List AV)(objs:La):List Nat:=gc 1 (args.flatMap gY) objs
noncomputable def fg(t:List (Nat×Nat×Nat))(oc ld:Ln):List AO:= [.tab t, .lam 3 2 [("octets",3),("lead",4)], .cod qL, .cel (.by_ oc), .cel (.by_ ld)]
noncomputable def ji(oc ld:Ln):List AO:=fg [(425,29,5)] oc ld++ [.cod qA]
def AZ(Q:Tq)(R:Tr)(oc ld s:Ln):Prop:=s.length<=500000/\eE s 0
 (λ p wd w ys=>∀y,Q (.ob 6) (ji oc ld++(.lst [.ob 7, .ob 8]:: .tup [.st y]:: .tup [.st eT, .ob 9, .bo (b_ wd)]::d_ 9 W7 w ys)))
 (λ p wd w ys=>∀y,Q (.ob 6) (ji oc ld++(.lst [.ob 7, .ob 8]:: .tup [.st y]:: .tup [.st eT, .ob 9, .bo (b_ wd)]::d_ 9 (W6 (1,2)) w ys)))
 (λ p wd w ys=>Q (.ob 5) (fg [] oc ld++(.lst [.ob 6]:: .tup [.st eT, .ob 7, .bo (b_ wd)]::d_ 7 W7 w ys)))
 (λ p wd w ys=>Q (.ob 5) (fg [] oc ld++(.lst [.ob 6]:: .tup [.st eT, .ob 7, .bo (b_ wd)]::d_ 7 (W6 (1,2)) w ys)))
 (λ p=>∀m,R 6 (e_ (ji oc ld) 6 m p)) (λ b p=>∀m,R 6 (j8 (ji oc ld) 6 m p)) (λ p=>∀m,R 5 (e_ (fg [] oc ld) 5 m p)) (λ b p=>∀m,R 5 (j8 (fg [] oc ld) 5 m p))
def A_(Q:Tq)(R:Tr)(oc ld:Ln):Prop:=oc.length<=400000/\ld.length<=1000/\(∀x∈oc,x<256)/\(∀x∈ld,x<256)/\
 cond (aR (af W7 (W6 1) ld) [40]) (AZ Q R oc ld (ld++oc++ [41])) (AZ Q R oc ld (ld++oc++ []))
noncomputable def oH:aH:=⟨qF,λ as os Q R=>cz as λ v r=>bM r (fb 1 v (∃oc ld,os=fg [] oc ld/\A_ Q R oc ld)),14, [585],W8⟩
end Mine.Lake
open PySem.Calls
namespace Mine.Lake
section
abbrev A'(oc ld:Ln)(Q:Tq)(wd w:Ln)(ys:Ll)(y:Ln):Prop:=Q (Xf 6) [Xq [(425,29,5)],Xp 3 2 [("octets",3),("lead",4)],cW,Xl (Xe oc),Xl (Xe ld),Xo "read_items.<locals>.<lambda>",Xi [Xf 7,Xf 8],Xj [Xd y],Xj [Xd [115,101,99,116,105,111,110],Xf 9,Xa (b_ wd)],Xg 214 10,dS 11 w 12,Xj [],Xk ys]
abbrev Ba(oc ld:Ln)(Q:Tq)(wd w:Ln)(ys:Ll)(y:Ln):Prop:=Q (Xf 6) [Xq [(425,29,5)],Xp 3 2 [("octets",3),("lead",4)],cW,Xl (Xe oc),Xl (Xe ld),Xo "read_items.<locals>.<lambda>",Xi [Xf 7,Xf 8],Xj [Xd y],Xj [Xd [115,101,99,116,105,111,110],Xf 9,Xa (b_ wd)],Xg 214 10,dS 11 w 12,Xj [Xc (1:Int),Xc (2:Int)],Xk ys]
abbrev Bb(oc ld:Ln)(Q:Tq)(wd w:Ln)(ys:Ll):Prop:=Q (Xf 5) [Xq [],Xp 3 2 [("octets",3),("lead",4)],cW,Xl (Xe oc),Xl (Xe ld),Xi [Xf 6],Xj [Xd [115,101,99,116,105,111,110],Xf 7,Xa (b_ wd)],Xg 214 8,dS 9 w 10,Xj [],Xk ys]
abbrev Bc(oc ld:Ln)(Q:Tq)(wd w:Ln)(ys:Ll):Prop:=Q (Xf 5) [Xq [],Xp 3 2 [("octets",3),("lead",4)],cW,Xl (Xe oc),Xl (Xe ld),Xi [Xf 6],Xj [Xd [115,101,99,116,105,111,110],Xf 7,Xa (b_ wd)],Xg 214 8,dS 9 w 10,Xj [Xc (1:Int),Xc (2:Int)],Xk ys]
abbrev Bd(oc ld:Ln)(R:Tr)(p:Int)(m:Ln):Prop:=R 6 [Xq [(425,29,5)],Xp 3 2 [("octets",3),("lead",4)],cW,Xl (Xe oc),Xl (Xe ld),Xo "read_items.<locals>.<lambda>",Xm 7,dW m p]
abbrev Be(oc ld:Ln)(R:Tr)(p:Int)(m:Ln):Prop:=R 6 [Xq [(425,29,5)],Xp 3 2 [("octets",3),("lead",4)],cW,Xl (Xe oc),Xl (Xe ld),Xo "read_items.<locals>.<lambda>",Xn 7,dW m p]
abbrev Bf(oc ld:Ln)(R:Tr)(p:Int)(m:Ln):Prop:=R 5 [Xq [],Xp 3 2 [("octets",3),("lead",4)],cW,Xl (Xe oc),Xl (Xe ld),Xm 6,dW m p]
abbrev Bg(oc ld:Ln)(R:Tr)(p:Int)(m:Ln):Prop:=R 5 [Xq [],Xp 3 2 [("octets",3),("lead",4)],cW,Xl (Xe oc),Xl (Xe ld),Xn 6,dW m p]
abbrev O9(oc ld:Ln)(Q:Tq)(R:Tr)(l:Ln)(a:Int):Prop:= [Xq [],Xg 541 2,dC (ld++oc++ [41]) (0:Int)]= [Xq [],Xg 541 2,dC l a]/\bj l a/\eE l a (λ p wd w ys=>∀(y:Ln),A' oc ld Q wd w ys y) (λ p wd w ys=>∀(y:Ln),Ba oc ld Q wd w ys y) (λ p wd w ys=>Bb oc ld Q wd w ys) (λ p wd w ys=>Bc oc ld Q wd w ys) (λ p=>∀(m:Ln),Bd oc ld R p m) (λ b p=>∀(m:Ln),Be oc ld R p m) (λ p=>∀(m:Ln),Bf oc ld R p m) λ b p=>∀(m:Ln),Bg oc ld R p m
abbrev O_(oc ld:Ln)(Q:Tq)(R:Tr)(l:Ln)(a:Int):Prop:= [Xq [],Xg 541 2,dC (ld++oc++ []) (0:Int)]= [Xq [],Xg 541 2,dC l a]/\bj l a/\eE l a (λ p wd w ys=>∀(y:Ln),A' oc ld Q wd w ys y) (λ p wd w ys=>∀(y:Ln),Ba oc ld Q wd w ys y) (λ p wd w ys=>Bb oc ld Q wd w ys) (λ p wd w ys=>Bc oc ld Q wd w ys) (λ p=>∀(m:Ln),Bd oc ld R p m) (λ b p=>∀(m:Ln),Be oc ld R p m) (λ p=>∀(m:Ln),Bf oc ld R p m) λ b p=>∀(m:Ln),Bg oc ld R p m
def O'(oc ld:Ln)(q:ab)(Q:Tq)(R:Tr):Prop:=aa ld+aa oc<=1048576/\bB W7 (W6 (1:Int)) (aa ld)/\bif aR (af W7 (W6 (1:Int)) ld) [40] then aa (ld++oc)+1<=1048576/\∃(l:Ln),∃(a:Int),O9 oc ld Q R l a else aa (ld++oc)+0<=1048576/\∃(l:Ln),∃(a:Int),O_ oc ld Q R l a
theorem Pa{oc ld:Ln}{q:ab}{Q:Tq}{R:Tr}(h:O' oc ld q Q R):bh (aN [(588,AL),(541,Ab)]) ⟨(bG 3).scope,5, [("octets",3),("lead",4)], [585],W8,W7,q,W7,aS⟩ 60 (bG 3).body ⟨[],fg [] oc ld⟩ (λ a σ=>iN 5 a σ.objs Q) (λ k σ=>bL 5 k σ.objs R):=kq h
end
section
variable{w:aQ}{mg mb:Tm}{Q:Tq}{R:Tr}
theorem Pb:jX w mg mb 3 oH:=by
 refine qn (n:=60) (bud:=13) ((aX.nil.cons M_ rfl (by kernel_rfl)).cons OJ rfl (by kernel_rfl)) (ba _) (by kernel_rfl) (by kernel_rfl) (by kernel_rfl) (by kernel_rfl) (λ _ _ _ _=>rfl) λ kf objs Q R h=> ?_
 refine cY (y7 (as:= [.ob kf]) (f:=λ v r=>bM r (fb 1 v (∃oc ld,objs=fg [] oc ld/\A_ Q R oc ld))) h) λ v r hr h1=> ?_;injection hr with zq;subst zq
 refine aI (n8 h1) λ _ h2=> ?_;refine CP (zE h2) λ e oc ld Tp h3 h4 h5 h6 h7=> ?_;subst Tp;injection e with zq;subst zq
 have hlen:(ld++oc).length=ld.length+oc.length:=bD;have Uk:∀x∈ld++oc,x<256:=λ x hx=>by
  rcases bV.mp hx with h | h
  ·exact h6 x h
  ·exact h5 x h
 refine⟨2, [("octets",3),("lead",4)],aS,rfl,rfl,Pa ⟨by lia,⟨trivial,by decide,by lia⟩, ?_⟩⟩
 cases hb:aR (af W7 (W6 1) ld) [40] with
 | true=>
  rw[hb]at h7;refine⟨by lia,_,_,rfl,⟨h7.1,by decide,λ x hx=> ?_⟩,h7.2⟩
  rcases bV.mp hx with h | h
  ·exact Uk x h
  ·rw[dI.mp h];decide
 | false=>
  rw[hb]at h7;refine⟨by lia,_,_,rfl,⟨h7.1,by decide,λ x hx=> ?_⟩,h7.2⟩
  rcases bV.mp hx with h | h
  ·exact Uk x h
  ·exact absurd h (by simp)
end
end Mine.Lake
open PySem.Calls
namespace Mine.Lake
noncomputable def jA(oc ft:Ln):List AO:= [.tab [], .lam 1 2 [("octets",3),("front",4)], .cod qL, .cel (.by_ oc), .cel (.st ft)]
noncomputable def jj(v:Ln):List AO:= [.tab [], .lam 2 2 [("text",3)], .cod qL, .cel (.st v)]
noncomputable def uo(os:La):Nat:=match os[1]? with
 | some o=>(kT o).getD 0
 | none=>0
def Bh(Q:Tq)(oc ft:Ln):Prop:=oc.length<=500000/\ft.length<=500000/\(∀x∈oc,x<256)/\
 cond (bb oc ft.length oc.length).ok (Q (.ob 5) (jA oc ft++ [.tup [.st (bb oc ft.length oc.length).acc, .num (-1)]])) (Q (.ob 5) (jA oc ft++ [.tup [.non, .num (bb oc ft.length oc.length).spot]]))
def Bj(Q:Tq)(v:Ln):Prop:=v.length<=500000/\gL v (λ w ys=>Q (.ob 4) (jj v++(.tup [.ob 5, .num (-1)]::d_ 5 W7 w ys))) (λ w ys=>Q (.ob 4) (jj v++(.tup [.ob 5, .num (-1)]::d_ 5 (W6 (1,2)) w ys))) (λ p=>Q (.ob 4) (jj v++ [.tup [.non, .num p]]))
def Bk(Q:Tq)(oc ld s:Ln):Prop:=s.length<=500000/\eE s 0
 (λ p wd w ys=>∀y,Q (.ob 6) (ji oc ld++(.tup [.ob 7, .num (-1)]:: .lst [.ob 8, .ob 9]:: .tup [.st y]:: .tup [.st eT, .ob 10, .bo (b_ wd)]::d_ 10 W7 w ys)))
 (λ p wd w ys=>∀y,Q (.ob 6) (ji oc ld++(.tup [.ob 7, .num (-1)]:: .lst [.ob 8, .ob 9]:: .tup [.st y]:: .tup [.st eT, .ob 10, .bo (b_ wd)]::d_ 10 (W6 (1,2)) w ys)))
 (λ p wd w ys=>Q (.ob 5) (fg [] oc ld++(.tup [.ob 6, .num (-1)]:: .lst [.ob 7]:: .tup [.st eT, .ob 8, .bo (b_ wd)]::d_ 8 W7 w ys)))
 (λ p wd w ys=>Q (.ob 5) (fg [] oc ld++(.tup [.ob 6, .num (-1)]:: .lst [.ob 7]:: .tup [.st eT, .ob 8, .bo (b_ wd)]::d_ 8 (W6 (1,2)) w ys)))
 (λ p=>Q (.ob 6) (ji oc ld++ [.tup [.non, .num p]])) (λ b p=>Q (.ob 6) (ji oc ld++ [.tup [.non, .num p]])) (λ p=>Q (.ob 5) (fg [] oc ld++ [.tup [.non, .num p]])) (λ b p=>Q (.ob 5) (fg [] oc ld++ [.tup [.non, .num p]]))
def Bl(Q:Tq)(oc ld:Ln):Prop:=oc.length<=400000/\ld.length<=1000/\(∀x∈oc,x<256)/\(∀x∈ld,x<256)/\
 cond (aR (af W7 (W6 1) ld) [40]) (Bk Q oc ld (ld++oc++ [41])) (Bk Q oc ld (ld++oc++ []))
def qG(Q:Tq)(os:La):Nat->Prop
 | 1=>∃oc ft,os=jA oc ft/\Bh Q oc ft
 | 2=>∃v,os=jj v/\Bj Q v
 | 3=>∃oc ld,os=fg [] oc ld/\Bl Q oc ld
 | _=>False
noncomputable def Pc:aH:=⟨qF,λ as os Q R=>cz as λ v r=>bM r (fb 1 v (qG Q os (uo os))),15, [585],W8⟩
end Mine.Lake
open PySem.Calls
namespace Mine.Lake
section
abbrev Pd(Q:Tq)(SV Ua:Ln):Prop:=Q (Xf 5) [Xq [],Xp 1 2 [("octets",3),("front",4)],cW,Xl (Xe SV),Xl (Xd Ua),Xj [Xd (bb SV (aa Ua:Int) (aa SV:Int)).acc,Xc (-1:Int)]]
abbrev Pe(Q:Tq)(SV Ua:Ln):Prop:=Q (Xf 5) [Xq [],Xp 1 2 [("octets",3),("front",4)],cW,Xl (Xe SV),Xl (Xd Ua),Xj [W',Xc (bb SV (aa Ua:Int) (aa SV:Int)).spot]]
abbrev Pf(oc ft:Ln)(Q:Tq)(SV Ua:Ln):Prop:= [Xp 1 1 [("octets",2),("front",3)],cW,Xl (Xe oc),Xl (Xd ft)]= [Xp 1 1 [("octets",2),("front",3)],cW,Xl (Xe SV),Xl (Xd Ua)]/\aa SV<=500000/\aa Ua<=500000/\(∀(x:Nat),x∈SV->x<256)/\bif (bb SV (aa Ua:Int) (aa SV:Int)).ok then Pd Q SV Ua else ∀(m:Ln),Pe Q SV Ua
def Pg(oc ld ft v:Ln)(q:ab)(Q:Tq)(R:Tr):Prop:=∃(SV:Ln),∃(Ua:Ln),Pf oc ft Q SV Ua
theorem Ph{oc ld ft v:Ln}{q:ab}{Q:Tq}{R:Tr}(h:Pg oc ld ft v q Q R):aL (aN [(100000+1,oF),(100000+2,oG),(100000+3,oH)]) ⟨fS (tp 70),5, [], [585],W8,W7,q,W7,aS⟩ 60 (fB (tp 70)) ⟨[("ask", .ob 1)],jA oc ft⟩ (bg 5 Q) (λ k σ=>bL 5 k σ.objs R):=kq h
abbrev Pj(Q:Tq)(Vd w:Ln)(ys:Ll):Prop:=Q (Xf 4) [Xq [],Xp 2 2 [("text",3)],cW,Xl (Xd Vd),Xj [Xf 5,Xc (-1:Int)],Xg 214 6,dS 7 w 8,Xj [],Xk ys]
abbrev Pk(Q:Tq)(Vd w:Ln)(ys:Ll):Prop:=Q (Xf 4) [Xq [],Xp 2 2 [("text",3)],cW,Xl (Xd Vd),Xj [Xf 5,Xc (-1:Int)],Xg 214 6,dS 7 w 8,Xj [Xc (1:Int),Xc (2:Int)],Xk ys]
abbrev Pl(v:Ln)(Q:Tq)(Vd:Ln):Prop:= [Xp 2 1 [("text",2)],cW,Xl (Xd v)]= [Xp 2 1 [("text",2)],cW,Xl (Xd Vd)]/\aa Vd<=500000/\gL Vd (λ w ys=>Pj Q Vd w ys) (λ w ys=>Pk Q Vd w ys) λ p=>∀(m:Ln),Q (Xf 4) [Xq [],Xp 2 2 [("text",3)],cW,Xl (Xd Vd),Xj [W',Xc p]]
def Pm(oc ld ft v:Ln)(q:ab)(Q:Tq)(R:Tr):Prop:=∃(Vd:Ln),Pl v Q Vd
theorem Pn{oc ld ft v:Ln}{q:ab}{Q:Tq}{R:Tr}(h:Pm oc ld ft v q Q R):aL (aN [(100000+1,oF),(100000+2,oG),(100000+3,oH)]) ⟨fS (tp 70),4, [], [585],W8,W7,q,W7,aS⟩ 60 (fB (tp 70)) ⟨[("ask", .ob 1)],jj v⟩ (bg 4 Q) (λ k σ=>bL 4 k σ.objs R):=kq h
abbrev Bm(Q:Tq)(SV Tc wd w:Ln)(ys:Ll)(y:Ln):Prop:=Q (Xf 6) [Xq [(425,29,5)],Xp 3 2 [("octets",3),("lead",4)],cW,Xl (Xe SV),Xl (Xe Tc),Xo "read_items.<locals>.<lambda>",Xj [Xf 7,Xc (-1:Int)],Xi [Xf 8,Xf 9],Xj [Xd y],Xj [Xd [115,101,99,116,105,111,110],Xf 10,Xa (b_ wd)],Xg 214 11,dS 12 w 13,Xj [],Xk ys]
abbrev Bn(Q:Tq)(SV Tc wd w:Ln)(ys:Ll)(y:Ln):Prop:=Q (Xf 6) [Xq [(425,29,5)],Xp 3 2 [("octets",3),("lead",4)],cW,Xl (Xe SV),Xl (Xe Tc),Xo "read_items.<locals>.<lambda>",Xj [Xf 7,Xc (-1:Int)],Xi [Xf 8,Xf 9],Xj [Xd y],Xj [Xd [115,101,99,116,105,111,110],Xf 10,Xa (b_ wd)],Xg 214 11,dS 12 w 13,Xj [Xc (1:Int),Xc (2:Int)],Xk ys]
abbrev Bo(Q:Tq)(SV Tc wd w:Ln)(ys:Ll):Prop:=Q (Xf 5) [Xq [],Xp 3 2 [("octets",3),("lead",4)],cW,Xl (Xe SV),Xl (Xe Tc),Xj [Xf 6,Xc (-1:Int)],Xi [Xf 7],Xj [Xd [115,101,99,116,105,111,110],Xf 8,Xa (b_ wd)],Xg 214 9,dS 10 w 11,Xj [],Xk ys]
abbrev Bp(Q:Tq)(SV Tc wd w:Ln)(ys:Ll):Prop:=Q (Xf 5) [Xq [],Xp 3 2 [("octets",3),("lead",4)],cW,Xl (Xe SV),Xl (Xe Tc),Xj [Xf 6,Xc (-1:Int)],Xi [Xf 7],Xj [Xd [115,101,99,116,105,111,110],Xf 8,Xa (b_ wd)],Xg 214 9,dS 10 w 11,Xj [Xc (1:Int),Xc (2:Int)],Xk ys]
abbrev qH(Q:Tq)(SV Tc:Ln)(p:Int):Prop:=Q (Xf 6) [Xq [(425,29,5)],Xp 3 2 [("octets",3),("lead",4)],cW,Xl (Xe SV),Xl (Xe Tc),Xo "read_items.<locals>.<lambda>",Xj [W',Xc p]]
abbrev Po(Q:Tq)(SV Tc:Ln):Prop:=aa (Tc++SV++ [41])<=500000/\eE (Tc++SV++ [41]) (0:Int) (λ p wd w ys=>∀(y:Ln),Bm Q SV Tc wd w ys y) (λ p wd w ys=>∀(y:Ln),Bn Q SV Tc wd w ys y) (λ p wd w ys=>Bo Q SV Tc wd w ys) (λ p wd w ys=>Bp Q SV Tc wd w ys) (λ p=>∀(m:Ln),qH Q SV Tc p) (λ b p=>∀(m:Ln),qH Q SV Tc p) (λ p=>∀(m:Ln),Q (Xf 5) [Xq [],Xp 3 2 [("octets",3),("lead",4)],cW,Xl (Xe SV),Xl (Xe Tc),Xj [W',Xc p]]) λ b p=>∀(m:Ln),Q (Xf 5) [Xq [],Xp 3 2 [("octets",3),("lead",4)],cW,Xl (Xe SV),Xl (Xe Tc),Xj [W',Xc p]]
abbrev Pp(Q:Tq)(SV Tc:Ln):Prop:=aa (Tc++SV++ [])<=500000/\eE (Tc++SV++ []) (0:Int) (λ p wd w ys=>∀(y:Ln),Bm Q SV Tc wd w ys y) (λ p wd w ys=>∀(y:Ln),Bn Q SV Tc wd w ys y) (λ p wd w ys=>Bo Q SV Tc wd w ys) (λ p wd w ys=>Bp Q SV Tc wd w ys) (λ p=>∀(m:Ln),qH Q SV Tc p) (λ b p=>∀(m:Ln),qH Q SV Tc p) (λ p=>∀(m:Ln),Q (Xf 5) [Xq [],Xp 3 2 [("octets",3),("lead",4)],cW,Xl (Xe SV),Xl (Xe Tc),Xj [W',Xc p]]) λ b p=>∀(m:Ln),Q (Xf 5) [Xq [],Xp 3 2 [("octets",3),("lead",4)],cW,Xl (Xe SV),Xl (Xe Tc),Xj [W',Xc p]]
abbrev Pq(oc ld:Ln)(Q:Tq)(SV Tc:Ln):Prop:= [Xq [],Xp 3 2 [("octets",3),("lead",4)],cW,Xl (Xe oc),Xl (Xe ld)]= [Xq [],Xp 3 2 [("octets",3),("lead",4)],cW,Xl (Xe SV),Xl (Xe Tc)]/\aa SV<=400000/\aa Tc<=1000/\(∀(x:Nat),x∈SV->x<256)/\(∀(x:Nat),x∈Tc->x<256)/\bif aR (af W7 (W6 (1:Int)) Tc) [40] then Po Q SV Tc else Pp Q SV Tc
def Pr(oc ld ft v:Ln)(q:ab)(Q:Tq)(R:Tr):Prop:=∃(SV:Ln),∃(Tc:Ln),Pq oc ld Q SV Tc
theorem Pt{oc ld ft v:Ln}{q:ab}{Q:Tq}{R:Tr}(h:Pr oc ld ft v q Q R):aL (aN [(100000+1,oF),(100000+2,oG),(100000+3,oH)]) ⟨fS (tp 70),5, [], [585],W8,W7,q,W7,aS⟩ 60 (fB (tp 70)) ⟨[("ask", .ob 1)],fg [] oc ld⟩ (bg 5 Q) (λ k σ=>bL 5 k σ.objs R):=kq h
end
section
variable{w:aQ}{mg mb:Tm}{Q:Tq}{R:Tr}
theorem gL.mono(h:gL v A0 A1 P)(h0:∀w ys,A0 w ys->B0 w ys)(h1:∀w ys,A1 w ys->B1 w ys)(hp:∀p,P p->P' p):gL v B0 B1 P':=by
 revert h;refine fz (λ zr=> ?_) (λ zr=> ?_)
 ·revert zr
  refine uY λ p p1 p2 p3 p4=> ?_;exact .inl ⟨p,p1,p2,p3,hp _ p4⟩
 ·revert zr
  refine CF λ p1 k b s h4=> ?_;refine .inr ⟨p1,k,b,s, ?_⟩;cases hs:s.ok with
  | false=>rw[hs]at h4;exact⟨h4.1,hp _ h4.2⟩
  | true=>
   rw[hs]at h4;revert h4;refine fz (λ h4=> ?_) (λ h4=> ?_)
   ·exact .inl ⟨h4.1,h0 _ _ h4.2⟩
   ·exact .inr ⟨h4.1,h1 _ _ h4.2⟩
theorem eE.mono{T0 T1 Q0 Q1 T0' T1' Q0' Q1':Int->List Nat->List Nat->List (List Nat)->Prop}{TN RN TN' RN':Int->Prop}{TD RD TD' RD':Int->Int->Prop}(h:eE l a T0 T1 Q0 Q1 TN TD RN RD)
  (t0:∀p wd w ys,T0 p wd w ys->T0' p wd w ys) (t1:∀p wd w ys,T1 p wd w ys->T1' p wd w ys) (q0:∀p wd w ys,Q0 p wd w ys->Q0' p wd w ys) (q1:∀p wd w ys,Q1 p wd w ys->Q1' p wd w ys)
  (tn:∀p,TN p->TN' p) (td:∀b p,TD b p->TD' b p) (rn:∀p,RN p->RN' p) (rd:∀b p,RD b p->RD' b p):eE l a T0' T1' Q0' Q1' TN' TD' RN' RD':=by
 unfold eE at h ⊢
 cases hp:W_ (aP l a=40) with
 | true=>
  rw[hp]at h;revert h;refine uW λ t1' t2 b t3 t4 t5 t6 t7 t8 t9 b2 u1 u2 u3 u4 u5=> ?_;exact⟨t1',t2,b,t3,t4,t5,t6,t7,t8,t9,b2,u1,u2,u3,u4,u5.mono (λ p w ys _ _ h=>⟨h.1,t0 _ _ _ _ h.2⟩) (λ p w ys _ _ h=>⟨h.1,t1 _ _ _ _ h.2⟩) tn (td _) λ r h1 h2=>oC h1 h2⟩
 | false=>
  rw[hp]at h;revert h;refine ro λ b hit U' hm h91 Vi=> ?_;exact⟨b,hit,U',hm,h91,Vi.mono (λ p w ys _ _ h=>q0 _ _ _ _ h) (λ p w ys _ _ h=>q1 _ _ _ _ h) rn (rd _) λ r h1 h2=>oC h1 h2⟩
theorem GA:aX w mg mb 14 (aN [(100000+1,oF),(100000+2,oG),(100000+3,oH)]):= ((aX.nil.consL Pb rfl).consL O8 rfl).consL O7 rfl
theorem Pu{os:La}{n:Nat}(h:qG Q os n):(∃oc ft,os=jA oc ft/\Bh Q oc ft)∨(∃v,os=jj v/\Bj Q v)∨∃oc ld,os=fg [] oc ld/\Bl Q oc ld:=by
 match n,h with
 | 1,h=>exact .inl h
 | 2,h=>exact .inr (.inl h)
 | 3,h=>exact .inr (.inr h)
theorem Bq:bx w mg mb 615 Pc:=by
 refine cI (n:=60) (bud:=14) GA (ba _) (fd:=ck rB) (body:=fB (tp 70)) (cA rfl) (by kernel_rfl) cH λ args objs Q R h=> ?_
 apply cJ h;intro v r h1;apply cg h1;intro h2;apply fZ h2;intro h3;have hb:n0 (ck rB) [.ob 1] [("ask", .ob 1)]:=cT ["ask"] (by kernel_rfl) (d8 λ _=>rfl)
 refine rr (Pu h3) (λ zr=> ?_) (λ zr=> ?_) (λ zr=> ?_)
 ·revert zr
  refine u0 λ oc ft zq2 h4 h5 h6 h7=> ?_;subst zq2;refine⟨_,aS,hb,Ph (ld:= []) (v:= []) ⟨oc,ft,rfl,h4,h5,h6, ?_⟩⟩;cases TG:(bb oc ft.length oc.length).ok with
  | true=>rw[TG]at h7;exact h7
  | false=>rw[TG]at h7;exact λ _=>h7
 ·revert zr
  refine o9 λ v SY h4 h5=> ?_;subst SY;exact⟨_,aS,hb,Pn (oc:= []) (ld:= []) (ft:= []) ⟨v,rfl,h4,h5.mono (λ _ _ h=>h) (λ _ _ h=>h) λ _ h _=>h⟩⟩
 ·revert zr
  refine u6 λ oc ld zq2 h4 h5 h6 h7 h8=> ?_;subst zq2;refine⟨_,aS,hb,Pt (ft:= []) (v:= []) ⟨oc,ld,rfl,h4,h5,h6,h7, ?_⟩⟩;cases hk:aR (af W7 (W6 1) ld) [40] with
  | true=>rw[hk]at h8;exact⟨h8.1,h8.2.mono (λ _ _ _ _ h=>h) (λ _ _ _ _ h=>h) (λ _ _ _ _ h=>h) (λ _ _ _ _ h=>h) (λ _ h _=>h) (λ _ _ h _=>h) (λ _ h _=>h) λ _ _ h _=>h⟩
  | false=>rw[hk]at h8;exact⟨h8.1,h8.2.mono (λ _ _ _ _ h=>h) (λ _ _ _ _ h=>h) (λ _ _ _ _ h=>h) (λ _ _ _ _ h=>h) (λ _ h _=>h) (λ _ _ h _=>h) (λ _ h _=>h) λ _ _ h _=>h⟩
end
end Mine.Lake
open PySem.Calls
namespace Mine.Lake
abbrev lx(y x:Lx)(P:Prop):Prop:=Eq (α:=List (Nat×Nat×Nat)) [] []/\Eq (α:=List (Nat×Nat×Nat)) [] []/\y.fst=x.fst/\y.snd=x.snd/\P
structure LP where
 wy:Int
 cd:Int
 wd:List Nat
 ld:List Nat
 y:Int
noncomputable def bY:List (List Nat):= [[97], [90], [32], [93], [123], [40], [92,34], [92,92], [37], [126]]
noncomputable def gr:List (List Nat):= [("HEADER.FIELDS" :ab).cps.toList,("1.2.HEADER.FIELDS.NOT" :ab).cps.toList]
noncomputable def j':List (List Nat):= [("BODY" :ab).cps.toList,("BODY.PEEK" :ab).cps.toList,("(UID body" :ab).cps.toList,("(FLAGS BODY.peek" :ab).cps.toList]
def dA(p:LP):Prop:=0<=p.wy/\p.wy<4/\0<=p.cd/\p.cd<34/\p.wd∈gr/\p.ld∈j'/\0<=p.y/\p.y<1000000007
def bJ(k:Int)(t:Int×Int):Prop:=0<=t.1/\0<=t.2/\t.2<=k
abbrev i4(xs:Lx)(Q:Tq):Prop:=∀a b r,Q (.bo W8) (.tab a:: .tab b:: .lstR xs.1 xs.2::r)
noncomputable abbrev qI(xs:Lx)(tx oc ld ft:AO)(p:LP)(t:Int×Int):List AO:= [.tab [], .tab [], .lstR xs.1 xs.2,tx,oc,ld,ft, .cel (.ob 8), .lst [.num t.1, .num p.y, .num t.2]]
noncomputable abbrev eU(xs:Lx)(p:LP)(t:Int×Int):List AO:=qI xs .cl0 .cl0 (.cel (.by_ p.ld)) .cl0 p t
noncomputable abbrev oJ(xs:Lx)(x:LP×(Int×Int)):AS:=⟨[("way", .num x.1.wy),("code", .num x.1.cd),("word", .st x.1.wd)],eU xs x.1 x.2⟩
abbrev J0(xs:Lx)(σ:AS):Prop:=∃x,fgt 8 σ (oJ xs x) (dA x.1/\bJ 4 x.2)
def aM(r:Ll):Prop:=r.length<=4/\∀u∈r,u∈bY
noncomputable abbrev i5(p:LP):List (ab×AV):= [("way", .num p.wy),("code", .num p.cd),("word", .st p.wd),("rows", .ob 9)]
noncomputable abbrev i6(a:Ll):List AO:= [.lst [.ob 10], .lstS a]
noncomputable abbrev ia(a b:Ll):List AO:= [.lst [.ob 10, .ob 11], .lstS a, .lstS b]
noncomputable abbrev gu(a b c:Ll):List AO:= [.lst [.ob 10, .ob 11, .ob 12], .lstS a, .lstS b, .lstS c]
abbrev J1(xs:Lx)(p:LP)(σ:AS):Prop:=
 (∃x:(Int×Int)×List (List Nat),fgt 8 σ ⟨i5 p,eU xs p x.1++i6 x.2⟩ (bJ 20 x.1/\aM x.2))∨
 (∃x:(Int×Int)×List (List Nat)×List (List Nat),fgt 8 σ ⟨i5 p,eU xs p x.1++ia x.2.1 x.2.2⟩ (bJ 20 x.1/\aM x.2.1/\aM x.2.2))∨
 (∃x:(Int×Int)×List (List Nat)×List (List Nat)×List (List Nat),fgt 8 σ ⟨i5 p,eU xs p x.1++gu x.2.1 x.2.2.1 x.2.2.2⟩ (bJ 20 x.1/\aM x.2.1/\aM x.2.2.1/\aM x.2.2.2))
noncomputable def Br(σ:AS)(j:Nat):Int:= ((((σ.objs[8]?).bind fF).bind λ l=>l[j]?).bind ir).getD 0
noncomputable def Pv(σ:AS):nv:=⟨(Int×Int)×List (List Nat),λ y=>σ.objs.set 8 (.lst [.num y.1.1, .num (Br σ 1), .num y.1.2]),λ y=> .lstS y.2,λ i y=>bJ (Br σ 2+i) y.1/\y.2.length=i/\∀u∈y.2,u∈bY⟩
noncomputable abbrev Pw:fE:=⟨λ _=>W7,λ _=> .vs,λ k σ=>(match aO k 461012 with
 | true=>W6 (Pv σ)
 | false=>W7),λ _ _=>W7,λ _=>W7,λ _=>0⟩
noncomputable abbrev cR(q:ab)(an:fE):Cf:=⟨fS (tp 71),8, [("text",3),("octets",4),("lead",5),("front",6),("tape",7)], [585,617],W8,W7,q,W6 (619,1),an⟩
noncomputable abbrev cG(i j:Nat):List cD:= ((fB (tp 71)).take j).drop i
abbrev dN(R:Tr)(k:Nat)(σ:AS):Prop:=bL 3 k σ.objs R
end Mine.Lake
open PySem.Calls
namespace Mine.Lake
section
abbrev Px(xs TL:Lx)(d S7 TC S9 Tw Td:Int)(Ui:LP×Int×Int):Prop:=lx TL xs <| ay [[66,79,68,89], [66,79,68,89,46,80,69,69,75], [40,85,73,68,32,98,111,100,121], [40,70,76,65,71,83,32,66,79,68,89,46,112,101,101,107]] (bH S7 4) []=Ui.fst.ld/\Tw=Ui.snd.fst/\S9=Ui.fst.y/\Td=Ui.snd.snd/\d=Ui.fst.wy/\TC=Ui.fst.cd/\ [72,69,65,68,69,82,46,70,73,69,76,68,83]=Ui.fst.wd/\dA Ui.fst/\bJ (4:Int) Ui.snd
abbrev Py(xs TL:Lx)(d S7 TC S9 Tw Td:Int)(Ui:LP×Int×Int):Prop:=lx TL xs <| ay [[66,79,68,89], [66,79,68,89,46,80,69,69,75], [40,85,73,68,32,98,111,100,121], [40,70,76,65,71,83,32,66,79,68,89,46,112,101,101,107]] (bH S7 4) []=Ui.fst.ld/\Tw=Ui.snd.fst/\S9=Ui.fst.y/\Td=Ui.snd.snd/\d=Ui.fst.wy/\TC=Ui.fst.cd/\ [49,46,50,46,72,69,65,68,69,82,46,70,73,69,76,68,83,46,78,79,84]=Ui.fst.wd/\dA Ui.fst/\bJ (4:Int) Ui.snd
abbrev Pz(xs TL:Lx)(d S7 Te TC To S4 Ud S9 T3:Int):Prop:= [Xi [Xc To,Xc Te,Xc S4]]= [Xi [Xc Ud,Xc S9,Xc T3]]/\dR Ud S9 T3/\(1:Int)<=2/\(2:Int)<=1000/\(∀(Tw Td:Int),0<=Tw->0<=Td->Td<=T3+1->(-2:Int)<=0/\(0:Int)<2/\2<=1048576/\∃(Ui:LP×Int×Int),Px xs TL d S7 TC S9 Tw Td Ui)/\∀(Tw Td:Int),0<=Tw->0<=Td->Td<=T3+1->(-2:Int)<=1/\(1:Int)<2/\2<=1048576/\∃(Ui:LP×Int×Int),Py xs TL d S7 TC S9 Tw Td Ui
abbrev PA(xs TL:Lx)(d SX S7 Tx S6 TJ Te Tz:Int):Prop:= [Xi [Xc Tx,Xc SX,Xc S6]]= [Xi [Xc TJ,Xc Te,Xc Tz]]/\dR TJ Te Tz/\(1:Int)<=34/\(34:Int)<=1000/\∀(TC:Int),0<=TC->TC<34->∀(To S4:Int),0<=To->0<=S4->S4<=Tz+1->∃(Ud:Int),∃(S9:Int),∃(T3:Int),Pz xs TL d S7 Te TC To S4 Ud S9 T3
abbrev PB(xs TL:Lx)(SS d x' z' TA SX TK:Int):Prop:= [Xi [Xc x',Xc SS,Xc z']]= [Xi [Xc TA,Xc SX,Xc TK]]/\dR TA SX TK/\(1:Int)<=4/\(4:Int)<=1000/\∀(S7:Int),0<=S7->S7<4->∀(Tx S6:Int),0<=Tx->0<=S6->S6<=TK+1->(-4)<=S7/\S7<4/\4<=1048576/\∃(TJ:Int),∃(Te:Int),∃(Tz:Int),PA xs TL d SX S7 Tx S6 TJ Te Tz
abbrev PC(xs TL:Lx)(x y z S3 SS TS:Int):Prop:= [Xi [Xc x,Xc y,Xc z]]= [Xi [Xc S3,Xc SS,Xc TS]]/\dR S3 SS TS/\(1:Int)<=4/\(4:Int)<=1000/\∀(d:Int),0<=d->d<4->∀(x' z':Int),0<=x'->0<=z'->z'<=TS+1->∃(TA:Int),∃(SX:Int),∃(TK:Int),PB xs TL SS d x' z' TA SX TK
def Bs(xs:Lx)(p:LP)(t:Int×Int)(q:ab)(Q:Tq)(R:Tr):Prop:=∃(TL:Lx), [Xr xs.fst xs.snd]= [Xr TL.fst TL.snd]/\aa TL.fst<=63/\∀(x y z:Int),dR x y z->z= 0->∃(S3:Int),∃(SS:Int),∃(TS:Int),PC xs TL x y z S3 SS TS
theorem PD(h:Bs xs p t q Q R):aL (aN [(596,AQ),(603,j_)]) (cR q aS) 60 (cG 0 3) ⟨[("script", .ob 2)], [.tab [], .tab [], .lstR xs.1 xs.2, .cl0, .cl0, .cl0, .cl0, .cl0]⟩ (dF (J0 xs) (bg 3 Q)) (dN R):=kq h
abbrev PE(xs:Lx)(p:LP)(SS d Tx S6:Int)(SX:(Int×Int)×List (List Nat)):Prop:=lx xs xs <| p.ld=p.ld/\Tx=SX.fst.fst/\SS=SS/\S6=SX.fst.snd/\1=1/\au d=au d/\ []=SX.snd/\bJ (S6+(↑0:Int)) SX.fst/\aa SX.snd=0/\∀(u:Ln),u∈SX.snd->u∈bY
abbrev PF(xs:Lx)(p:LP)(SS d S6:Int)(i:Nat)(SX:(Int×Int)×List (List Nat))(Te S7 To S4:Int)(Tz:(Int×Int)×List (List Nat)):Prop:=lx xs xs <| p.ld=p.ld/\To=Tz.fst.fst/\Te=SS/\S4=Tz.fst.snd/\1=1/\au d=au d/\SX.snd++ [ay [[97], [90], [32], [93], [123], [40], [92,34], [92,92], [37], [126]] (au S7) []]=Tz.snd/\bJ (S6+(↑(i+1):Int)) Tz.fst/\aa Tz.snd=i+1/\∀(u:Ln),u∈Tz.snd->u∈bY
abbrev PG(xs:Lx)(p:LP)(SS d S6:Int)(i:Nat)(SX:(Int×Int)×List (List Nat))(TA Te TK:Int):Prop:= [Xi [Xc SX.fst.fst,Xc SS,Xc SX.fst.snd]]= [Xi [Xc TA,Xc Te,Xc TK]]/\dR TA Te TK/\(1:Int)<=10/\(10:Int)<=1000/\∀(S7:Int),0<=S7->S7<10->∀(To S4:Int),0<=To->0<=S4->S4<=TK+1->0<=S7/\S7<10/\10<=1048576/\∃(Tz:(Int×Int)×List (List Nat)),PF xs p SS d S6 i SX Te S7 To S4 Tz
abbrev PH(xs:Lx)(p:LP)(SS:Int)(SX TA:(Int×Int)×List (List Nat)):Prop:=lx xs xs <| p.ld=p.4/\SX.fst.fst=TA.fst.fst/\SS=p.y/\SX.fst.snd=TA.fst.snd/\SX.snd=TA.snd/\p.wy=p.wy/\p.cd=p.cd/\p.wd=p.3/\bJ (20:Int) TA.fst/\aM TA.snd
abbrev Bt(xs:Lx)(p:LP)(SS:Int)(SX:(Int×Int)×List (List Nat))(TA:(Int×Int)×List (List Nat)×List (List Nat)):Prop:=lx xs xs <| p.ld=p.4/\SX.fst.fst=TA.fst.fst/\SS=p.y/\SX.fst.snd=TA.fst.snd/\False
abbrev Bu(xs:Lx)(p:LP)(SS:Int)(SX:(Int×Int)×List (List Nat))(TA:(Int×Int)×List (List Nat)×List (List Nat)×List (List Nat)):Prop:=lx xs xs <| p.ld=p.4/\SX.fst.fst=TA.fst.fst/\SS=p.y/\SX.fst.snd=TA.fst.snd/\False
abbrev PI(xs:Lx)(p:LP)(SS d Tx S6:Int):Prop:= 0<=d/\d<=1048576/\au d<=1048576/\(∃(SX:(Int×Int)×List (List Nat)),PE xs p SS d Tx S6 SX)/\(∀(i:Nat) (SX:(Int×Int)×List (List Nat)),i<au d->(bJ (S6+(↑i:Int)) SX.fst/\aa SX.snd=i/\∀(u:Ln),u∈SX.snd->u∈bY)->∃(TA:Int),∃(Te:Int),∃(TK:Int),PG xs p SS d S6 i SX TA Te TK)/\∀(SX:(Int×Int)×List (List Nat)),(bJ (S6+(↑(au d):Int)) SX.fst/\aa SX.snd=au d/\∀(u:Ln),u∈SX.snd->u∈bY)->(∃(TA:(Int×Int)×List (List Nat)),PH xs p SS SX TA)∨(∃(TA:(Int×Int)×List (List Nat)×List (List Nat)),Bt xs p SS SX TA)∨∃(TA:(Int×Int)×List (List Nat)×List (List Nat)×List (List Nat)),Bu xs p SS SX TA
abbrev PJ(xs:Lx)(p:LP)(y x' z' S3 SS TS:Int):Prop:= [Xi [Xc x',Xc y,Xc z']]= [Xi [Xc S3,Xc SS,Xc TS]]/\dR S3 SS TS/\(1:Int)<=5/\(5:Int)<=1000/\∀(d:Int),0<=d->d<5->∀(Tx S6:Int),0<=Tx->0<=S6->S6<=TS+1->PI xs p SS d Tx S6
abbrev PK(xs:Lx)(p:LP)(SS d Tx S6:Int)(SX:(Int×Int)×List (List Nat)):Prop:=lx xs xs <| p.ld=p.ld/\Tx=SX.fst.fst/\SS=SS/\S6=SX.fst.snd/\2=2/\au d=au d/\ []=SX.snd/\bJ (S6+(↑0:Int)) SX.fst/\aa SX.snd=0/\∀(u:Ln),u∈SX.snd->u∈bY
abbrev PM(xs:Lx)(p:LP)(SS d S6:Int)(i:Nat)(SX:(Int×Int)×List (List Nat))(Te S7 To S4:Int)(Tz:(Int×Int)×List (List Nat)):Prop:=lx xs xs <| p.ld=p.ld/\To=Tz.fst.fst/\Te=SS/\S4=Tz.fst.snd/\2=2/\au d=au d/\SX.snd++ [ay [[97], [90], [32], [93], [123], [40], [92,34], [92,92], [37], [126]] (au S7) []]=Tz.snd/\bJ (S6+(↑(i+1):Int)) Tz.fst/\aa Tz.snd=i+1/\∀(u:Ln),u∈Tz.snd->u∈bY
abbrev PN(xs:Lx)(p:LP)(SS d S6:Int)(i:Nat)(SX:(Int×Int)×List (List Nat))(TA Te TK:Int):Prop:= [Xi [Xc SX.fst.fst,Xc SS,Xc SX.fst.snd]]= [Xi [Xc TA,Xc Te,Xc TK]]/\dR TA Te TK/\(1:Int)<=10/\(10:Int)<=1000/\∀(S7:Int),0<=S7->S7<10->∀(To S4:Int),0<=To->0<=S4->S4<=TK+1->0<=S7/\S7<10/\10<=1048576/\∃(Tz:(Int×Int)×List (List Nat)),PM xs p SS d S6 i SX Te S7 To S4 Tz
abbrev PO(xs:Lx)(p:LP)(d:Int)(SX:(Int×Int)×List (List Nat))(Te S7 To S4:Int)(S9:(Int×Int)×List (List Nat)):Prop:=lx xs xs <| p.ld=p.ld/\To=S9.fst.fst/\Te=Te/\S4=S9.fst.snd/\2=2/\au d=au d/\SX.snd=SX.snd/\au S7=au S7/\ []=S9.snd/\bJ (S4+(↑0:Int)) S9.fst/\aa S9.snd=0/\∀(u:Ln),u∈S9.snd->u∈bY
abbrev PP(xs:Lx)(p:LP)(d:Int)(SX:(Int×Int)×List (List Nat))(Te S7 S4:Int)(i:Nat)(S9:(Int×Int)×List (List Nat))(TH TC Tw Td:Int)(T3:(Int×Int)×List (List Nat)):Prop:=lx xs xs <| p.ld=p.ld/\Tw=T3.fst.fst/\TH=Te/\Td=T3.fst.snd/\2=2/\au d=au d/\SX.snd=SX.snd/\au S7=au S7/\S9.snd++ [ay [[97], [90], [32], [93], [123], [40], [92,34], [92,92], [37], [126]] (au TC) []]=T3.snd/\bJ (S4+(↑(i+1):Int)) T3.fst/\aa T3.snd=i+1/\∀(u:Ln),u∈T3.snd->u∈bY
abbrev PQ(xs:Lx)(p:LP)(d:Int)(SX:(Int×Int)×List (List Nat))(Te S7 S4:Int)(i:Nat)(S9:(Int×Int)×List (List Nat))(TJ TH Tz:Int):Prop:= [Xi [Xc S9.fst.fst,Xc Te,Xc S9.fst.snd]]= [Xi [Xc TJ,Xc TH,Xc Tz]]/\dR TJ TH Tz/\(1:Int)<=10/\(10:Int)<=1000/\∀(TC:Int),0<=TC->TC<10->∀(Tw Td:Int),0<=Tw->0<=Td->Td<=Tz+1->0<=TC/\TC<10/\10<=1048576/\∃(T3:(Int×Int)×List (List Nat)),PP xs p d SX Te S7 S4 i S9 TH TC Tw Td T3
abbrev Bv(xs:Lx)(p:LP)(Te:Int)(S9 TJ:(Int×Int)×List (List Nat)):Prop:=lx xs xs <| p.ld=p.4/\S9.fst.fst=TJ.fst.fst/\Te=p.y/\S9.fst.snd=TJ.fst.snd/\False
abbrev PR(xs:Lx)(p:LP)(SX:(Int×Int)×List (List Nat))(Te:Int)(S9:(Int×Int)×List (List Nat))(TJ:(Int×Int)×List (List Nat)×List (List Nat)):Prop:=lx xs xs <| p.ld=p.4/\S9.fst.fst=TJ.fst.fst/\Te=p.y/\S9.fst.snd=TJ.fst.snd/\SX.snd=TJ.snd.fst/\S9.snd=TJ.snd.snd/\p.wy=p.wy/\p.cd=p.cd/\p.wd=p.3/\bJ (20:Int) TJ.fst/\aM TJ.snd.fst/\aM TJ.snd.snd
abbrev PS(xs:Lx)(p:LP)(d:Int)(SX:(Int×Int)×List (List Nat))(Te S7 To S4:Int):Prop:= 0<=S7/\S7<=1048576/\au S7<=1048576/\(∃(S9:(Int×Int)×List (List Nat)),PO xs p d SX Te S7 To S4 S9)/\(∀(i:Nat) (S9:(Int×Int)×List (List Nat)),i<au S7->(bJ (S4+(↑i:Int)) S9.fst/\aa S9.snd=i/\∀(u:Ln),u∈S9.snd->u∈bY)->∃(TJ:Int),∃(TH:Int),∃(Tz:Int),PQ xs p d SX Te S7 S4 i S9 TJ TH Tz)/\∀(S9:(Int×Int)×List (List Nat)),(bJ (S4+(↑(au S7):Int)) S9.fst/\aa S9.snd=au S7/\∀(u:Ln),u∈S9.snd->u∈bY)->(∃(TJ:(Int×Int)×List (List Nat)),Bv xs p Te S9 TJ)∨(∃(TJ:(Int×Int)×List (List Nat)×List (List Nat)),PR xs p SX Te S9 TJ)∨∃(TJ:(Int×Int)×List (List Nat)×List (List Nat)×List (List Nat)),Bu xs p Te S9 TJ
abbrev PT(xs:Lx)(p:LP)(SS d:Int)(SX:(Int×Int)×List (List Nat))(TA Te TK:Int):Prop:= [Xi [Xc SX.fst.fst,Xc SS,Xc SX.fst.snd]]= [Xi [Xc TA,Xc Te,Xc TK]]/\dR TA Te TK/\(1:Int)<=5/\(5:Int)<=1000/\∀(S7:Int),0<=S7->S7<5->∀(To S4:Int),0<=To->0<=S4->S4<=TK+1->PS xs p d SX Te S7 To S4
abbrev PU(xs:Lx)(p:LP)(SS d Tx S6:Int):Prop:= 0<=d/\d<=1048576/\au d<=1048576/\(∃(SX:(Int×Int)×List (List Nat)),PK xs p SS d Tx S6 SX)/\(∀(i:Nat) (SX:(Int×Int)×List (List Nat)),i<au d->(bJ (S6+(↑i:Int)) SX.fst/\aa SX.snd=i/\∀(u:Ln),u∈SX.snd->u∈bY)->∃(TA:Int),∃(Te:Int),∃(TK:Int),PN xs p SS d S6 i SX TA Te TK)/\∀(SX:(Int×Int)×List (List Nat)),(bJ (S6+(↑(au d):Int)) SX.fst/\aa SX.snd=au d/\∀(u:Ln),u∈SX.snd->u∈bY)->∃(TA:Int),∃(Te:Int),∃(TK:Int),PT xs p SS d SX TA Te TK
abbrev PV(xs:Lx)(p:LP)(y x' z' S3 SS TS:Int):Prop:= [Xi [Xc x',Xc y,Xc z']]= [Xi [Xc S3,Xc SS,Xc TS]]/\dR S3 SS TS/\(1:Int)<=5/\(5:Int)<=1000/\∀(d:Int),0<=d->d<5->∀(Tx S6:Int),0<=Tx->0<=S6->S6<=TS+1->PU xs p SS d Tx S6
abbrev PW(xs:Lx)(p:LP)(SS d Tx S6:Int)(SX:(Int×Int)×List (List Nat)):Prop:=lx xs xs <| p.ld=p.ld/\Tx=SX.fst.fst/\SS=SS/\S6=SX.fst.snd/\3=3/\au d=au d/\ []=SX.snd/\bJ (S6+(↑0:Int)) SX.fst/\aa SX.snd=0/\∀(u:Ln),u∈SX.snd->u∈bY
abbrev PX(xs:Lx)(p:LP)(SS d S6:Int)(i:Nat)(SX:(Int×Int)×List (List Nat))(Te S7 To S4:Int)(Tz:(Int×Int)×List (List Nat)):Prop:=lx xs xs <| p.ld=p.ld/\To=Tz.fst.fst/\Te=SS/\S4=Tz.fst.snd/\3=3/\au d=au d/\SX.snd++ [ay [[97], [90], [32], [93], [123], [40], [92,34], [92,92], [37], [126]] (au S7) []]=Tz.snd/\bJ (S6+(↑(i+1):Int)) Tz.fst/\aa Tz.snd=i+1/\∀(u:Ln),u∈Tz.snd->u∈bY
abbrev PY(xs:Lx)(p:LP)(SS d S6:Int)(i:Nat)(SX:(Int×Int)×List (List Nat))(TA Te TK:Int):Prop:= [Xi [Xc SX.fst.fst,Xc SS,Xc SX.fst.snd]]= [Xi [Xc TA,Xc Te,Xc TK]]/\dR TA Te TK/\(1:Int)<=10/\(10:Int)<=1000/\∀(S7:Int),0<=S7->S7<10->∀(To S4:Int),0<=To->0<=S4->S4<=TK+1->0<=S7/\S7<10/\10<=1048576/\∃(Tz:(Int×Int)×List (List Nat)),PX xs p SS d S6 i SX Te S7 To S4 Tz
abbrev PZ(xs:Lx)(p:LP)(d:Int)(SX:(Int×Int)×List (List Nat))(Te S7 To S4:Int)(S9:(Int×Int)×List (List Nat)):Prop:=lx xs xs <| p.ld=p.ld/\To=S9.fst.fst/\Te=Te/\S4=S9.fst.snd/\3=3/\au d=au d/\SX.snd=SX.snd/\au S7=au S7/\ []=S9.snd/\bJ (S4+(↑0:Int)) S9.fst/\aa S9.snd=0/\∀(u:Ln),u∈S9.snd->u∈bY
abbrev P0(xs:Lx)(p:LP)(d:Int)(SX:(Int×Int)×List (List Nat))(Te S7 S4:Int)(i:Nat)(S9:(Int×Int)×List (List Nat))(TH TC Tw Td:Int)(T3:(Int×Int)×List (List Nat)):Prop:=lx xs xs <| p.ld=p.ld/\Tw=T3.fst.fst/\TH=Te/\Td=T3.fst.snd/\3=3/\au d=au d/\SX.snd=SX.snd/\au S7=au S7/\S9.snd++ [ay [[97], [90], [32], [93], [123], [40], [92,34], [92,92], [37], [126]] (au TC) []]=T3.snd/\bJ (S4+(↑(i+1):Int)) T3.fst/\aa T3.snd=i+1/\∀(u:Ln),u∈T3.snd->u∈bY
abbrev P1(xs:Lx)(p:LP)(d:Int)(SX:(Int×Int)×List (List Nat))(Te S7 S4:Int)(i:Nat)(S9:(Int×Int)×List (List Nat))(TJ TH Tz:Int):Prop:= [Xi [Xc S9.fst.fst,Xc Te,Xc S9.fst.snd]]= [Xi [Xc TJ,Xc TH,Xc Tz]]/\dR TJ TH Tz/\(1:Int)<=10/\(10:Int)<=1000/\∀(TC:Int),0<=TC->TC<10->∀(Tw Td:Int),0<=Tw->0<=Td->Td<=Tz+1->0<=TC/\TC<10/\10<=1048576/\∃(T3:(Int×Int)×List (List Nat)),P0 xs p d SX Te S7 S4 i S9 TH TC Tw Td T3
abbrev P2(xs:Lx)(p:LP)(d:Int)(SX:(Int×Int)×List (List Nat))(S7:Int)(S9:(Int×Int)×List (List Nat))(TH TC Tw Td:Int)(T4:(Int×Int)×List (List Nat)):Prop:=lx xs xs <| p.ld=p.ld/\Tw=T4.fst.fst/\TH=TH/\Td=T4.fst.snd/\3=3/\au d=au d/\SX.snd=SX.snd/\au S7=au S7/\S9.snd=S9.snd/\au TC=au TC/\ []=T4.snd/\bJ (Td+(↑0:Int)) T4.fst/\aa T4.snd=0/\∀(u:Ln),u∈T4.snd->u∈bY
abbrev P3(xs:Lx)(p:LP)(d:Int)(SX:(Int×Int)×List (List Nat))(S7:Int)(S9:(Int×Int)×List (List Nat))(TH TC Td:Int)(i:Nat)(T4:(Int×Int)×List (List Nat))(VX Wi Vy z'_4:Int)(VI:(Int×Int)×List (List Nat)):Prop:=lx xs xs <| p.ld=p.ld/\Vy=VI.fst.fst/\VX=TH/\z'_4=VI.fst.snd/\3=3/\au d=au d/\SX.snd=SX.snd/\au S7=au S7/\S9.snd=S9.snd/\au TC=au TC/\T4.snd++ [ay [[97], [90], [32], [93], [123], [40], [92,34], [92,92], [37], [126]] (au Wi) []]=VI.snd/\bJ (Td+(↑(i+1):Int)) VI.fst/\aa VI.snd=i+1/\∀(u:Ln),u∈VI.snd->u∈bY
abbrev P4(xs:Lx)(p:LP)(d:Int)(SX:(Int×Int)×List (List Nat))(S7:Int)(S9:(Int×Int)×List (List Nat))(TH TC Td:Int)(i:Nat)(T4:(Int×Int)×List (List Nat))(Ud VX T3:Int):Prop:= [Xi [Xc T4.fst.fst,Xc TH,Xc T4.fst.snd]]= [Xi [Xc Ud,Xc VX,Xc T3]]/\dR Ud VX T3/\(1:Int)<=10/\(10:Int)<=1000/\∀(Wi:Int),0<=Wi->Wi<10->∀(Vy z'_4:Int),0<=Vy->0<=z'_4->z'_4<=T3+1->0<=Wi/\Wi<10/\10<=1048576/\∃(VI:(Int×Int)×List (List Nat)),P3 xs p d SX S7 S9 TH TC Td i T4 VX Wi Vy z'_4 VI
abbrev P5(xs:Lx)(p:LP)(SX S9:(Int×Int)×List (List Nat))(TH:Int)(T4:(Int×Int)×List (List Nat))(Ud:(Int×Int)×List (List Nat)×List (List Nat)×List (List Nat)):Prop:=lx xs xs <| p.ld=p.4/\T4.fst.fst=Ud.fst.fst/\TH=p.y/\T4.fst.snd=Ud.fst.snd/\SX.snd=Ud.snd.fst/\S9.snd=Ud.snd.snd.fst/\T4.snd=Ud.snd.snd.snd/\p.wy=p.wy/\p.cd=p.cd/\p.wd=p.3/\bJ (20:Int) Ud.fst/\aM Ud.snd.fst/\aM Ud.snd.snd.fst/\aM Ud.snd.snd.snd
abbrev P6(xs:Lx)(p:LP)(d:Int)(SX:(Int×Int)×List (List Nat))(S7:Int)(S9:(Int×Int)×List (List Nat))(TH TC Tw Td:Int):Prop:= 0<=TC/\TC<=1048576/\au TC<=1048576/\(∃(T4:(Int×Int)×List (List Nat)),P2 xs p d SX S7 S9 TH TC Tw Td T4)/\(∀(i:Nat) (T4:(Int×Int)×List (List Nat)),i<au TC->(bJ (Td+(↑i:Int)) T4.fst/\aa T4.snd=i/\∀(u:Ln),u∈T4.snd->u∈bY)->∃(Ud:Int),∃(VX:Int),∃(T3:Int),P4 xs p d SX S7 S9 TH TC Td i T4 Ud VX T3)/\∀(T4:(Int×Int)×List (List Nat)),(bJ (Td+(↑(au TC):Int)) T4.fst/\aa T4.snd=au TC/\∀(u:Ln),u∈T4.snd->u∈bY)->(∃(Ud:(Int×Int)×List (List Nat)),Bv xs p TH T4 Ud)∨(∃(Ud:(Int×Int)×List (List Nat)×List (List Nat)),Bt xs p TH T4 Ud)∨∃(Ud:(Int×Int)×List (List Nat)×List (List Nat)×List (List Nat)),P5 xs p SX S9 TH T4 Ud
abbrev P7(xs:Lx)(p:LP)(d:Int)(SX:(Int×Int)×List (List Nat))(Te S7:Int)(S9:(Int×Int)×List (List Nat))(TJ TH Tz:Int):Prop:= [Xi [Xc S9.fst.fst,Xc Te,Xc S9.fst.snd]]= [Xi [Xc TJ,Xc TH,Xc Tz]]/\dR TJ TH Tz/\(1:Int)<=5/\(5:Int)<=1000/\∀(TC:Int),0<=TC->TC<5->∀(Tw Td:Int),0<=Tw->0<=Td->Td<=Tz+1->P6 xs p d SX S7 S9 TH TC Tw Td
abbrev P8(xs:Lx)(p:LP)(d:Int)(SX:(Int×Int)×List (List Nat))(Te S7 To S4:Int):Prop:= 0<=S7/\S7<=1048576/\au S7<=1048576/\(∃(S9:(Int×Int)×List (List Nat)),PZ xs p d SX Te S7 To S4 S9)/\(∀(i:Nat) (S9:(Int×Int)×List (List Nat)),i<au S7->(bJ (S4+(↑i:Int)) S9.fst/\aa S9.snd=i/\∀(u:Ln),u∈S9.snd->u∈bY)->∃(TJ:Int),∃(TH:Int),∃(Tz:Int),P1 xs p d SX Te S7 S4 i S9 TJ TH Tz)/\∀(S9:(Int×Int)×List (List Nat)),(bJ (S4+(↑(au S7):Int)) S9.fst/\aa S9.snd=au S7/\∀(u:Ln),u∈S9.snd->u∈bY)->∃(TJ:Int),∃(TH:Int),∃(Tz:Int),P7 xs p d SX Te S7 S9 TJ TH Tz
abbrev P9(xs:Lx)(p:LP)(SS d:Int)(SX:(Int×Int)×List (List Nat))(TA Te TK:Int):Prop:= [Xi [Xc SX.fst.fst,Xc SS,Xc SX.fst.snd]]= [Xi [Xc TA,Xc Te,Xc TK]]/\dR TA Te TK/\(1:Int)<=5/\(5:Int)<=1000/\∀(S7:Int),0<=S7->S7<5->∀(To S4:Int),0<=To->0<=S4->S4<=TK+1->P8 xs p d SX Te S7 To S4
abbrev P_(xs:Lx)(p:LP)(SS d Tx S6:Int):Prop:= 0<=d/\d<=1048576/\au d<=1048576/\(∃(SX:(Int×Int)×List (List Nat)),PW xs p SS d Tx S6 SX)/\(∀(i:Nat) (SX:(Int×Int)×List (List Nat)),i<au d->(bJ (S6+(↑i:Int)) SX.fst/\aa SX.snd=i/\∀(u:Ln),u∈SX.snd->u∈bY)->∃(TA:Int),∃(Te:Int),∃(TK:Int),PY xs p SS d S6 i SX TA Te TK)/\∀(SX:(Int×Int)×List (List Nat)),(bJ (S6+(↑(au d):Int)) SX.fst/\aa SX.snd=au d/\∀(u:Ln),u∈SX.snd->u∈bY)->∃(TA:Int),∃(Te:Int),∃(TK:Int),P9 xs p SS d SX TA Te TK
abbrev Qa(xs:Lx)(p:LP)(y x' z' S3 SS TS:Int):Prop:= [Xi [Xc x',Xc y,Xc z']]= [Xi [Xc S3,Xc SS,Xc TS]]/\dR S3 SS TS/\(1:Int)<=5/\(5:Int)<=1000/\∀(d:Int),0<=d->d<5->∀(Tx S6:Int),0<=Tx->0<=S6->S6<=TS+1->P_ xs p SS d Tx S6
abbrev Qb(xs:Lx)(p:LP)(t:Int×Int)(x y z:Int):Prop:= [Xi [Xc t.fst,Xc p.y,Xc t.snd]]= [Xi [Xc x,Xc y,Xc z]]/\dR x y z/\(1:Int)<=3/\(3:Int)<=1000/\(∀(x' z':Int),0<=x'->0<=z'->z'<=z+1->(0:Int)<=1/\(1:Int)<=1048576/\1<=1048576/\∃(S3:Int),∃(SS:Int),∃(TS:Int),PJ xs p y x' z' S3 SS TS)/\(∀(x' z':Int),0<=x'->0<=z'->z'<=z+1->(0:Int)<=2/\(2:Int)<=1048576/\2<=1048576/\∃(S3:Int),∃(SS:Int),∃(TS:Int),PV xs p y x' z' S3 SS TS)/\∀(x' z':Int),0<=x'->0<=z'->z'<=z+1->(0:Int)<=3/\(3:Int)<=1048576/\3<=1048576/\∃(S3:Int),∃(SS:Int),∃(TS:Int),Qa xs p y x' z' S3 SS TS
def Bw(xs:Lx)(p:LP)(t:Int×Int)(q:ab)(Q:Tq)(R:Tr):Prop:=∃(x:Int),∃(y:Int),∃(z:Int),Qb xs p t x y z
theorem Qc(h:Bw xs p t q Q R):aL (aN [(603,j_)]) (cR q Pw) 60 (cG 3 4) (oJ xs (p,t)) (dF (J1 xs p) (bg 3 Q)) (dN R):=kq h
end
section
variable{w:aQ}{mg mb:Tm}{xs:Lx}{p:LP}{t:Int×Int}{q:ab}{Q:Tq}{R:Tr}
theorem Qd{d:Int}(h:0<=d)(h1:d<10):bY.getD d.toNat []∈bY:=by
 have h2:d.toNat<bY.length:=by show d.toNat<10;lia
 rw[dX,bP h2];exact m_ h2
theorem Bx(h:0<=d)(h1:d<4):j'.getD (bH d 4) []∈j':=by
 have h3:bH d 4=d.toNat:=by
  induction d with
  | ofNat n=>rfl
  | negSucc n=>contradiction
 have h2:d.toNat<j'.length:=by show d.toNat<4;lia
 rw[h3,dX,bP h2];exact m_ h2
theorem w0(hl:xs.1.length<=63):Bs xs p t q Q R:=by
 refine⟨xs,rfl,hl,λ x y z g hz=>⟨x,y,z,rfl,g,by decide,by decide,λ d1 e1 f1 x1 z1 a1 b1 c1=>⟨_,_,_,rfl,⟨a1,g.2.1,g.2.2.1,b1,by lia⟩,by decide,by decide,λ d2 e2 f2 x2 z2 a2 b2 c2=>⟨by lia,f2,by decide,_,_,_,rfl,⟨a2,g.2.1,g.2.2.1,b2,by lia⟩,by decide,by decide,λ d3 e3 f3 x3 z3 a3 b3 c3=>
  ⟨_,_,_,rfl,⟨a3,g.2.1,g.2.2.1,b3,by lia⟩,by decide,by decide,λ x4 z4 a4 b4 c4=>⟨by decide,by decide,by decide,(⟨d1,d3,_,_,y⟩,(x4,z4)),w9 ⟨⟨e1,f1,e3,f3, ?_, ?_,g.2.1,g.2.2.1⟩,a4,b4, ?_⟩⟩,λ x4 z4 a4 b4 c4=>⟨by decide,by decide,by decide,(⟨d1,d3,_,_,y⟩,(x4,z4)),w9 ⟨⟨e1,f1,e3,f3, ?_, ?_,g.2.1,g.2.2.1⟩,a4,b4, ?_⟩⟩⟩⟩⟩⟩⟩
 ·exact .head _
 ·exact Bx e2 f2
 ·show z4<=4;lia
 ·exact .tail _ (.head _)
 ·exact Bx e2 f2
 ·show z4<=4;lia
theorem mK{k:Int}{x z:Int}(a:0<=x)(b:0<=z)(c:z<=k):bJ (k+(0:Nat)) (x,z)/\aa ([]:Ll)=0/\∀u:List Nat,u∈([]:Ll)->u∈bY:=⟨⟨a,b,by show z<=k+(0:Nat);lia⟩,rfl,λ u hu=>nomatch hu⟩
theorem mL{k:Int}{i:Nat}{y:(Int×Int)×List (List Nat)}{d x z:Int}(hy:bJ (k+i) y.1/\y.2.length=i/\∀u:List Nat,u∈y.2->u∈bY)(e:0<=d)(f:d<10)(a:0<=x)(b:0<=z)(c:z<=y.1.2+1):
  bJ (k+(i+1:Nat)) (x,z)/\aa (y.2++ [bY.getD d.toNat []])=i+1/\∀u:List Nat,u∈y.2++ [bY.getD d.toNat []]->u∈bY:=by
 revert hy;refine du λ Tj h4 h5=> ?_;revert Tj;refine du λ h1 h2 h3=> ?_;refine⟨⟨a,b, ?_⟩,by rw[bD,h4];rfl,λ u hu=> ?_⟩
 ·show z<=k+(i+1:Nat);lia
 ·rcases bV.mp hu with h | h
  ·exact h5 u h
  ·rw[dI.mp h];exact Qd e f
theorem mM{k:Int}{d:Int}{y:(Int×Int)×List (List Nat)}(hy:bJ (k+d.toNat) y.1/\y.2.length=d.toNat/\∀u:List Nat,u∈y.2->u∈bY)(e:0<=d)(f:d<5):bJ (k+4) y.1/\aM y.2:=by
 revert hy;refine du λ Tj h4 h5=> ?_;revert Tj;refine du λ h1 h2 h3=> ?_;exact⟨⟨h1,h2,by lia⟩,by lia,h5⟩
theorem w1(hp:dA p)(ht:bJ 4 t):Bw xs p t q Q R:=by
 revert hp;refine Cz λ _ _ _ _ _ _ y0 y1=> ?_;refine⟨_,_,_,rfl,⟨ht.1,y0,y1,ht.2.1,by have:=ht.2.2;lia⟩,by decide,by decide,λ x0 z0 a0 b0 c0=>⟨by decide,by decide,by decide, ?_⟩,λ x0 z0 a0 b0 c0=>⟨by decide,by decide,by decide, ?_⟩,λ x0 z0 a0 b0 c0=>⟨by decide,by decide,by decide, ?_⟩⟩
 all_goals have k0:bJ 5 (x0,z0):=⟨a0,b0,by have:=ht.2.2;show z0<=5;lia⟩
 ·refine⟨_,_,_,rfl,⟨k0.1,y0,y1,k0.2.1,by have:=k0.2.2;lia⟩,by decide,by decide,λ d1 e1 f1 x1 z1 a1 b1 c1=>⟨e1,by lia,by lia,⟨((x1,z1), []), ?_⟩,λ i y hi hy=>⟨_,_,_,rfl,⟨hy.1.1,y0,y1,hy.1.2.1,by have:=hy.1.2.2;have:=k0.2.2;lia⟩,by decide,by decide,λ d e f x' z' a b c=>⟨e,f,by decide,((x',z'),y.2++ [bY.getD d.toNat []]), ?_⟩⟩,λ r1 h1=> ?_⟩⟩
  ·exact⟨rfl,rfl,rfl,rfl,rfl,rfl,rfl,rfl,rfl,rfl,rfl,mK a1 b1 (gg _)⟩
  ·exact⟨rfl,rfl,rfl,rfl,rfl,rfl,rfl,rfl,rfl,rfl,rfl,mL hy e f a b c⟩
  have⟨t1,o1⟩:=mM h1 e1 f1;have k1:bJ 10 r1.1:=⟨t1.1,t1.2.1,by have:=t1.2.2;have:=k0.2.2;first | lia | (simp only at*;omega)⟩
  exact .inl ⟨(r1.1,r1.2),rP ⟨⟨k1.1,k1.2.1,by have:=k1.2.2;first | lia | (simp only at*;lia)⟩,o1⟩⟩
 ·refine⟨_,_,_,rfl,⟨k0.1,y0,y1,k0.2.1,by have:=k0.2.2;lia⟩,by decide,by decide,λ d1 e1 f1 x1 z1 a1 b1 c1=>⟨e1,by lia,by lia,⟨((x1,z1), []), ?_⟩,λ i y hi hy=>⟨_,_,_,rfl,⟨hy.1.1,y0,y1,hy.1.2.1,by have:=hy.1.2.2;have:=k0.2.2;lia⟩,by decide,by decide,λ d e f x' z' a b c=>⟨e,f,by decide,((x',z'),y.2++ [bY.getD d.toNat []]), ?_⟩⟩,λ r1 h1=> ?_⟩⟩
  ·exact⟨rfl,rfl,rfl,rfl,rfl,rfl,rfl,rfl,rfl,rfl,rfl,mK a1 b1 (gg _)⟩
  ·exact⟨rfl,rfl,rfl,rfl,rfl,rfl,rfl,rfl,rfl,rfl,rfl,mL hy e f a b c⟩
  have⟨t1,o1⟩:=mM h1 e1 f1;have k1:bJ 10 r1.1:=⟨t1.1,t1.2.1,by have:=t1.2.2;have:=k0.2.2;first | lia | (simp only at*;omega)⟩
  refine⟨_,_,_,rfl,⟨k1.1,y0,y1,k1.2.1,by have:=k1.2.2;lia⟩,by decide,by decide,λ d2 e2 f2 x2 z2 a2 b2 c2=>⟨e2,by lia,by lia,⟨((x2,z2), []), ?_⟩,λ i y hi hy=>⟨_,_,_,rfl,⟨hy.1.1,y0,y1,hy.1.2.1,by have:=hy.1.2.2;have:=k1.2.2;lia⟩,by decide,by decide,λ d e f x' z' a b c=>⟨e,f,by decide,((x',z'),y.2++ [bY.getD d.toNat []]), ?_⟩⟩,λ r2 h2=> ?_⟩⟩
  ·exact⟨rfl,rfl,rfl,rfl,rfl,rfl,rfl,rfl,rfl,rfl,rfl,rfl,rfl,mK a2 b2 (gg _)⟩
  ·exact⟨rfl,rfl,rfl,rfl,rfl,rfl,rfl,rfl,rfl,rfl,rfl,rfl,rfl,mL hy e f a b c⟩
  have⟨t2,o2⟩:=mM h2 e2 f2;have k2:bJ 15 r2.1:=⟨t2.1,t2.2.1,by have:=t2.2.2;have:=k1.2.2;first | lia | (simp only at*;omega)⟩
  exact .inr (.inl ⟨(r2.1,r1.2,r2.2),rQ ⟨⟨k2.1,k2.2.1,by have:=k2.2.2;first | lia | (simp only at*;lia)⟩,o1,o2⟩⟩)
 ·refine⟨_,_,_,rfl,⟨k0.1,y0,y1,k0.2.1,by have:=k0.2.2;lia⟩,by decide,by decide,λ d1 e1 f1 x1 z1 a1 b1 c1=>⟨e1,by lia,by lia,⟨((x1,z1), []), ?_⟩,λ i y hi hy=>⟨_,_,_,rfl,⟨hy.1.1,y0,y1,hy.1.2.1,by have:=hy.1.2.2;have:=k0.2.2;lia⟩,by decide,by decide,λ d e f x' z' a b c=>⟨e,f,by decide,((x',z'),y.2++ [bY.getD d.toNat []]), ?_⟩⟩,λ r1 h1=> ?_⟩⟩
  ·exact⟨rfl,rfl,rfl,rfl,rfl,rfl,rfl,rfl,rfl,rfl,rfl,mK a1 b1 (gg _)⟩
  ·exact⟨rfl,rfl,rfl,rfl,rfl,rfl,rfl,rfl,rfl,rfl,rfl,mL hy e f a b c⟩
  have⟨t1,o1⟩:=mM h1 e1 f1;have k1:bJ 10 r1.1:=⟨t1.1,t1.2.1,by have:=t1.2.2;have:=k0.2.2;first | lia | (simp only at*;omega)⟩
  refine⟨_,_,_,rfl,⟨k1.1,y0,y1,k1.2.1,by have:=k1.2.2;lia⟩,by decide,by decide,λ d2 e2 f2 x2 z2 a2 b2 c2=>⟨e2,by lia,by lia,⟨((x2,z2), []), ?_⟩,λ i y hi hy=>⟨_,_,_,rfl,⟨hy.1.1,y0,y1,hy.1.2.1,by have:=hy.1.2.2;have:=k1.2.2;lia⟩,by decide,by decide,λ d e f x' z' a b c=>⟨e,f,by decide,((x',z'),y.2++ [bY.getD d.toNat []]), ?_⟩⟩,λ r2 h2=> ?_⟩⟩
  ·exact⟨rfl,rfl,rfl,rfl,rfl,rfl,rfl,rfl,rfl,rfl,rfl,rfl,rfl,mK a2 b2 (gg _)⟩
  ·exact⟨rfl,rfl,rfl,rfl,rfl,rfl,rfl,rfl,rfl,rfl,rfl,rfl,rfl,mL hy e f a b c⟩
  have⟨t2,o2⟩:=mM h2 e2 f2;have k2:bJ 15 r2.1:=⟨t2.1,t2.2.1,by have:=t2.2.2;have:=k1.2.2;first | lia | (simp only at*;omega)⟩
  refine⟨_,_,_,rfl,⟨k2.1,y0,y1,k2.2.1,by have:=k2.2.2;lia⟩,by decide,by decide,λ d3 e3 f3 x3 z3 a3 b3 c3=>⟨e3,by lia,by lia,⟨((x3,z3), []), ?_⟩,λ i y hi hy=>⟨_,_,_,rfl,⟨hy.1.1,y0,y1,hy.1.2.1,by have:=hy.1.2.2;have:=k2.2.2;lia⟩,by decide,by decide,λ d e f x' z' a b c=>⟨e,f,by decide,((x',z'),y.2++ [bY.getD d.toNat []]), ?_⟩⟩,λ r3 h3=> ?_⟩⟩
  ·exact⟨rfl,rfl,rfl,rfl,rfl,rfl,rfl,rfl,rfl,rfl,rfl,rfl,rfl,rfl,rfl,mK a3 b3 (gg _)⟩
  ·exact⟨rfl,rfl,rfl,rfl,rfl,rfl,rfl,rfl,rfl,rfl,rfl,rfl,rfl,rfl,rfl,mL hy e f a b c⟩
  have⟨t3,o3⟩:=mM h3 e3 f3;have k3:bJ 20 r3.1:=⟨t3.1,t3.2.1,by have:=t3.2.2;have:=k2.2.2;first | lia | (simp only at*;omega)⟩
  exact .inr (.inr ⟨(r3.1,r1.2,r2.2,r3.2),fD ⟨⟨k3.1,k3.2.1,by have:=k3.2.2;first | assumption | (simp only at*;omega)⟩,o1,o2,o3⟩⟩)
end
end Mine.Lake
open PySem.Calls
namespace Mine.Lake
noncomputable abbrev bp:=List (List Nat)
noncomputable abbrev lF(p:LP)(wh sp:Int):List (ab×AV):= [("way", .num p.wy),("code", .num p.cd),("word", .st p.wd),("rows", .ob 9),("which", .num wh),("spot", .num sp)]
def ka(rs:List bp)(wh sp:Int):Prop:=0<=wh/\wh<rs.length/\0<=sp/\sp<=(rs.getD wh.toNat []).length
abbrev J2(xs:Lx)(p:LP)(rs:List bp)(os:La)(σ:AS):Prop:=∃x:(Int×Int)×Int×Int,fgt 8 σ ⟨lF p x.2.1 x.2.2,eU xs p x.1++os⟩ (bJ 22 x.1/\ka rs x.2.1 x.2.2)
noncomputable def da(r:bp):List Nat:= (r.map λ u=>af (W6 (-1)) W7 u).flatten
noncomputable def cq(r:bp):List Nat:= ([34]++r.flatten)++ [34,32]
noncomputable def cB(r:bp):List Nat:= ([32,34]++r.flatten)++ [34]
noncomputable def ew(wd:Ln)(P:List bp):List Nat:= ((([91]++wd)++ [32,40])++(P.map cq).flatten)++ [34]
noncomputable def kb(S:List bp):List Nat:= (S.map cB).flatten++ [41,93]
def ey(o:Nat):Prop:=o<32∨o=127∨o=200
def jk(wy:Int)(f:Ln):Prop:= (wy=0->∃o,f= [o]/\ey o)/\(wy=1->f= [92,98])/\(1<wy->f= [])
noncomputable def By(ft ah:Ln)(wy:Int):Int:= ((ft++ah).length:Nat)+(if wy=1 then 1 else 0)
structure bC where
 pl:Int
 ft:List Nat
 ah:List Nat
 tx:List Nat
def fw(p:LP)(P S:List bp)(cur:bp)(sp:Int)(x:bC):Prop:=x.ft=ew p.wd P/\x.ah= (cur.take sp.toNat).flatten/\x.pl=By x.ft x.ah p.wy/\∃fr,jk p.wy fr/\x.tx=x.ft++x.ah++fr++((cur.drop sp.toNat).flatten++ [34])++kb S
def mN(p:LP)(P S:List bp)(cur:bp)(sp:Int)(x:bC):Prop:=∃tx,fw p P S cur sp ⟨x.pl,x.ft,x.ah,tx⟩/\x.tx= (if p.wy=2 then x.ft++x.ah else tx)
structure bu where
 b:bC
 nm:List (List Nat)
 wh:Int
def uq(p:LP)(x:bu):Prop:=∃(P S:List bp) (cur:bp) (sp:Int),(∀r∈P++cur::S,aM r)/\(P++cur::S).length<=3/\0<=sp/\sp<=cur.length/\mN p P S cur sp x.b/\x.nm= (P++cur::S).map da/\x.wh=P.length
noncomputable abbrev oK(xs:Lx)(p:LP)(t:Int×Int)(x:bu):AS:=⟨[("way", .num p.wy),("which", .num x.wh),("place", .num x.b.pl),("names", .ob 9)],qI xs (.cel (.st x.b.tx)) .cl0 (.cel (.by_ p.ld)) (.cel (.st x.b.ft)) p t++ [.tupS x.nm]⟩
noncomputable def Qe(o:AO):Option (List (List Nat)):=if h:o.ctorIdx=3 then AO.lstS.elim o h (λ x=>W6 x) else W7
noncomputable def Qg(σ:AS):Option (List (List Nat)):= (σ.loc.lookup ("row" :ab)).bind λ v=>(nF v).bind λ k=>(σ.objs[k]?).bind Qe
noncomputable def Qh(σ:AS):Option nv:= (Qg σ).map λ r=>oo σ.objs λ i=>af (W6 (-1)) W7 (r.getD i [])
noncomputable abbrev qJ:fE:=⟨λ _=>W7,λ _=> .vs,λ k σ=>(match aO k 473027 with
 | true=>Qh σ
 | false=>W7),λ _ _=>W7,λ _=>W7,λ _=>0⟩
noncomputable abbrev stF(xs:Lx)(p:LP)(t:Int×Int)(os:La)(wh sp:Int)(f:Ln):AS:=⟨[("way", .num p.wy),("word", .st p.wd),("rows", .ob 9),("which", .num wh),("spot", .num sp),("fresh", .st f)],eU xs p t++os⟩
noncomputable abbrev oM(xs:Lx)(p:LP)(t:Int×Int)(os:La)(wh:Int)(x:bC):AS:=⟨[("way", .num p.wy),("rows", .ob 9),("which", .num wh),("place", .num x.pl),("ahead", .st x.ah)],qI xs (.cel (.st x.tx)) .cl0 (.cel (.by_ p.ld)) (.cel (.st x.ft)) p t++os⟩
noncomputable abbrev oN(xs:Lx)(p:LP)(t:Int×Int)(os:La)(wh:Int)(x:bC):AS:=⟨[("way", .num p.wy),("rows", .ob 9),("which", .num wh),("place", .num x.pl)],qI xs (.cel (.st x.tx)) .cl0 (.cel (.by_ p.ld)) (.cel (.st x.ft)) p t++os⟩
abbrev JF(xs:Lx)(p:LP)(t:Int×Int)(os:La)(wh sp:Int)(σ:AS):Prop:=∃f:List Nat,fgt 8 σ (stF xs p t os wh sp f) (jk p.wy f)
abbrev lG(xs:Lx)(p:LP)(t:Int×Int)(os:La)(wh:Int)(ok:bC->Prop)(σ:AS):Prop:=∃x:bC,fgt 8 σ (oM xs p t os wh x) (ok x)
abbrev qK(xs:Lx)(p:LP)(t:Int×Int)(os:La)(wh:Int)(ok:bC->Prop)(σ:AS):Prop:=∃x:bC,fgt 8 σ (oN xs p t os wh x) (ok x)
abbrev JN(xs:Lx)(p:LP)(t:Int×Int)(ok:bu->Prop)(σ:AS):Prop:=∃x:bu,fgt 8 σ (oK xs p t x) (ok x)
end Mine.Lake
open PySem.Calls
namespace Mine.Lake
section
def Bz(xs:Lx)(p:LP)(t:Int×Int)(q:ab)(Q:Tq)(R:Tr)(a b c:bp)(wh sp:Int)(f:Ln)(ok:bC->Prop)(okn:bu->Prop)(x:bC):Prop:=1<=1048576/\∃(x:Int),∃(y:Int),∃(z:Int), [Xi [Xc t.fst,Xc p.y,Xc t.snd]]= [Xi [Xc x,Xc y,Xc z]]/\dR x y z/\(1:Int)<=1/\(1:Int)<=1000/\∀(x' z':Int),0<=x'->0<=z'->z'<=z+1->(-1:Int)<=0/\(0:Int)<1/\1<=1048576/\aa a<=1048576/\∃(x:Int),∃(SS:Int),∃(z:Int), [Xi [Xc x',Xc y,Xc z']]= [Xi [Xc x,Xc SS,Xc z]]/\dR x SS z/\1<=(aa a:Int)+1/\(aa a:Int)+1<=1000/\i0 ((aa a:Int)+1) λ d=>∀(x' z':Int),0<=x'->0<=z'->z'<=z+1->∃(x:(Int×Int)×Int×Int),lx xs xs <| p.4=p.4/\x'=x.fst.fst/\SS=p.y/\z'=x.fst.snd/\a=a/\p.wy=p.wy/\p.cd=p.cd/\p.3=p.3/\0=x.snd.fst/\d=x.snd.snd/\bJ (22:Int) x.fst/\ka [a] x.snd.fst x.snd.snd
theorem Qi(h:Bz xs p t q Q R a b c wh sp f ok okn x):aL (aN [(603,j_)]) (cR q aS) 60 (cG 4 6) ⟨i5 p,eU xs p t++i6 a⟩ (dF (J2 xs p [a] (i6 a)) (bg 3 Q)) (dN R):=kq h
def BA(xs:Lx)(p:LP)(t:Int×Int)(q:ab)(Q:Tq)(R:Tr)(a b c:bp)(wh sp:Int)(f:Ln)(ok:bC->Prop)(okn:bu->Prop)(x:bC):Prop:=bif W_ (p.cd<32) then 0<=p.cd/\p.cd<=1114111/\bif W_ (p.wy= 0) then ∃(f:Ln),lx xs xs <| p.4=p.4/\t.fst=t.fst/\p.y=p.y/\t.snd=t.snd/\a=a/\p.wy=p.wy/\p.3=p.3/\wh=wh/\sp=sp/\ [au p.cd]=f/\(p.wy= 0->∃(o:Nat),f= [o]/\ey o)/\(p.wy= 1->f= [92,98])/\(1<p.wy->f= []) else bif W_ (p.wy= 1) then ∃(f:Ln),lx xs xs <| p.4=p.4/\t.fst=t.fst/\p.y=p.y/\t.snd=t.snd/\a=a/\p.wy=p.wy/\p.3=p.3/\wh=wh/\sp=sp/\ [92,98]=f/\(p.wy= 0->∃(o:Nat),f= [o]/\ey o)/\(p.wy= 1->f= [92,98])/\(1<p.wy->f= []) else ∃(f:Ln),lx xs xs <| p.4=p.4/\t.fst=t.fst/\p.y=p.y/\t.snd=t.snd/\a=a/\p.wy=p.wy/\p.3=p.3/\wh=wh/\sp=sp/\ []=f/\(p.wy= 0->∃(o:Nat),f= [o]/\ey o)/\(p.wy= 1->f= [92,98])/\(1<p.wy->f= []) else(-2)<=p.cd - (32:Int)/\p.cd - (32:Int)<2/\2<=1048576/\0<=ay [(127:Int),(200:Int)] (bH (p.cd - (32:Int)) 2) (0:Int)/\ay [(127:Int),(200:Int)] (bH (p.cd - (32:Int)) 2) (0:Int)<=1114111/\bif W_ (p.wy= 0) then ∃(f:Ln),lx xs xs <| p.4=p.4/\t.fst=t.fst/\p.y=p.y/\t.snd=t.snd/\a=a/\p.wy=p.wy/\p.3=p.3/\wh=wh/\sp=sp/\ [au (ay [(127:Int),(200:Int)] (bH (p.cd - (32:Int)) 2) (0:Int))]=f/\(p.wy= 0->∃(o:Nat),f= [o]/\ey o)/\(p.wy= 1->f= [92,98])/\(1<p.wy->f= []) else bif W_ (p.wy= 1) then ∃(f:Ln),lx xs xs <| p.4=p.4/\t.fst=t.fst/\p.y=p.y/\t.snd=t.snd/\a=a/\p.wy=p.wy/\p.3=p.3/\wh=wh/\sp=sp/\ [92,98]=f/\(p.wy= 0->∃(o:Nat),f= [o]/\ey o)/\(p.wy= 1->f= [92,98])/\(1<p.wy->f= []) else ∃(f:Ln),lx xs xs <| p.4=p.4/\t.fst=t.fst/\p.y=p.y/\t.snd=t.snd/\a=a/\p.wy=p.wy/\p.3=p.3/\wh=wh/\sp=sp/\ []=f/\(p.wy= 0->∃(o:Nat),f= [o]/\ey o)/\(p.wy= 1->f= [92,98])/\(1<p.wy->f= [])
theorem Qj(h:BA xs p t q Q R a b c wh sp f ok okn x):aL (aN []) (cR q aS) 60 (cG 6 8) ⟨lF p wh sp,eU xs p t++i6 a⟩ (dF (JF xs p t (i6 a) wh sp) (bg 3 Q)) (dN R):=kq h
def ur(xs:Lx)(p:LP)(t:Int×Int)(q:ab)(Q:Tq)(R:Tr)(a b c:bp)(wh sp:Int)(f:Ln)(ok:bC->Prop)(okn:bu->Prop)(x:bC):Prop:=1+aa p.wd<=1048576/\aa ([91]++p.wd)+2<=1048576/\bB W7 (W6 (0:Int)) 1/\0<=1048576/\0<=1048576/\aa ([91]++p.wd++ [32,40])+0<=1048576/\aa ([91]++p.wd++ [32,40]++ae [])+1<=1048576/\(-1:Int)<=0/\(0:Int)<1/\1<=1048576/\bB W7 (W6 sp) (aa a)/\bq (af W7 (W6 sp) a)+aa (af W7 (W6 sp) a)<=1048576/\(-1:Int)<=0/\(0:Int)<1/\1<=1048576/\bB (W6 sp) W7 (aa a)/\bq (af (W6 sp) W7 a)+aa (af (W6 sp) W7 a)<=1048576/\aa (ae (af (W6 sp) W7 a))+1<=1048576/\bB (W6 (1:Int)) W7 1/\0<=1048576/\0<=1048576/\2<=1048576/\aa ([91]++p.wd++ [32,40]++ae []++ [34])+aa (ae (af W7 (W6 sp) a))<=1048576/\aa ([91]++p.wd++ [32,40]++ae []++ [34]++ae (af W7 (W6 sp) a))+aa f<=1048576/\aa ([91]++p.wd++ [32,40]++ae []++ [34]++ae (af W7 (W6 sp) a)++f)+aa (ae (af (W6 sp) W7 a)++ [34])<=1048576/\aa ([91]++p.wd++ [32,40]++ae []++ [34]++ae (af W7 (W6 sp) a)++f++(ae (af (W6 sp) W7 a)++ [34]))+2<=1048576/\aa ([91]++p.wd++ [32,40]++ae []++ [34])+aa (ae (af W7 (W6 sp) a))<=1048576/\aa ([91]++p.wd++ [32,40]++ae []++ [34]++ae (af W7 (W6 sp) a))<=1048576/\bif W_ (p.wy= 1) then ∃(x:bC),lx xs xs <| [91]++p.wd++ [32,40]++ae []++ [34]++ae (af W7 (W6 sp) a)++f++(ae (af (W6 sp) W7 a)++ [34])++(ae []++ [41,93])=x.4/\p.4=p.4/\ [91]++p.wd++ [32,40]++ae []++ [34]=x.2/\t.fst=t.fst/\p.y=p.y/\t.snd=t.snd/\a=a/\p.wy=p.wy/\(0:Int)= 0/\(↑(aa ([91]++p.wd++ [32,40]++ae []++ [34]++ae (af W7 (W6 sp) a))):Int)+1=x.pl/\ae (af W7 (W6 sp) a)=x.3/\ok x else ∃(x:bC),lx xs xs <| [91]++p.wd++ [32,40]++ae []++ [34]++ae (af W7 (W6 sp) a)++f++(ae (af (W6 sp) W7 a)++ [34])++(ae []++ [41,93])=x.4/\p.4=p.4/\ [91]++p.wd++ [32,40]++ae []++ [34]=x.2/\t.fst=t.fst/\p.y=p.y/\t.snd=t.snd/\a=a/\p.wy=p.wy/\(0:Int)= 0/\(↑(aa ([91]++p.wd++ [32,40]++ae []++ [34]++ae (af W7 (W6 sp) a))):Int)+0=x.pl/\ae (af W7 (W6 sp) a)=x.3/\ok x
theorem Qk(h:ur xs p t q Q R a b c wh sp f ok okn x):aL (aN []) (cR q aS) 60 (cG 8 13) (stF xs p t (i6 a) 0 sp f) (dF (lG xs p t (i6 a) 0 ok) (bg 3 Q)) (dN R):=kq h
def BB(xs:Lx)(p:LP)(t:Int×Int)(q:ab)(Q:Tq)(R:Tr)(a b c:bp)(wh sp:Int)(f:Ln)(ok:bC->Prop)(okn:bu->Prop)(x:bC):Prop:=bif W_ (p.wy= 2) then aa x.ft+aa x.ah<=1048576/\∃(S3:bC),lx xs xs <| x.ft++x.ah=S3.4/\p.4=p.4/\x.2=S3.2/\t.fst=t.fst/\p.y=p.y/\t.snd=t.snd/\a=a/\p.wy=p.wy/\wh=wh/\x.pl=S3.pl/\ok S3 else ∃(S3:bC),lx xs xs <| x.4=S3.4/\p.4=p.4/\x.2=S3.2/\t.fst=t.fst/\p.y=p.y/\t.snd=t.snd/\a=a/\p.wy=p.wy/\wh=wh/\x.pl=S3.pl/\ok S3
theorem Ql(h:BB xs p t q Q R a b c wh sp f ok okn x):aL (aN []) (cR q aS) 60 (cG 13 14) (oM xs p t (i6 a) wh x) (dF (qK xs p t (i6 a) wh ok) (bg 3 Q)) (dN R):=kq h
def BC(xs:Lx)(p:LP)(t:Int×Int)(q:ab)(Q:Tq)(R:Tr)(a b c:bp)(wh sp:Int)(f:Ln)(ok:bC->Prop)(okn:bu->Prop)(x:bC):Prop:=1<=1048576/\aa a<=1048576/\(∃(y:Ll),lx xs xs <| x.4=x.4/\p.4=p.4/\x.2=x.2/\t.fst=t.fst/\p.y=p.y/\t.snd=t.snd/\a=a/\ []=y/\y= [])/\(∀(i:Nat) (y:Ll),i<aa a->y=bT (λ i=>af (W6 (-1:Int)) W7 (ay a i [])) i->a=a/\Eq (α:=Option Int) W7 W7/\bB (W6 (-1:Int)) W7 (aa (ay a i []))/\∃(z:Ll),lx xs xs <| x.4=x.4/\p.4=p.4/\x.2=x.2/\t.fst=t.fst/\p.y=p.y/\t.snd=t.snd/\a=a/\y++ [dJ (bH (-1:Int) (aa (ay a i []))) (ay a i [])]=z/\z=bT (λ i=>af (W6 (-1:Int)) W7 (ay a i [])) (i+1))/\∀(y:Ll),y=bT (λ i=>af (W6 (-1:Int)) W7 (ay a i [])) (aa a)->a=a/\bq y+aa y<=1048576/\1<=1048576/\∃(S3:bu),lx xs xs <| x.4=S3.b.tx/\p.4=p.4/\x.2=S3.b.ft/\t.fst=t.fst/\p.y=p.y/\t.snd=t.snd/\ [ae y]=S3.nm/\p.wy=p.wy/\wh=S3.wh/\x.pl=S3.b.pl/\okn S3
theorem Qm(h:BC xs p t q Q R a b c wh sp f ok okn x):aL (aN []) (cR q qJ) 60 (cG 14 15) (oN xs p t (i6 a) wh x) (dF (JN xs p t okn) (bg 3 Q)) (dN R):=kq h
def BD(xs:Lx)(p:LP)(t:Int×Int)(q:ab)(Q:Tq)(R:Tr)(a b c:bp)(wh sp:Int)(f:Ln)(ok:bC->Prop)(okn:bu->Prop)(x:bC):Prop:=2<=1048576/\∃(x:Int),∃(y:Int),∃(z:Int), [Xi [Xc t.fst,Xc p.y,Xc t.snd]]= [Xi [Xc x,Xc y,Xc z]]/\dR x y z/\(1:Int)<=2/\(2:Int)<=1000/\(∀(x' z':Int),0<=x'->0<=z'->z'<=z+1->(-2:Int)<=0/\(0:Int)<2/\2<=1048576/\aa a<=1048576/\∃(x:Int),∃(SS:Int),∃(z:Int), [Xi [Xc x',Xc y,Xc z']]= [Xi [Xc x,Xc SS,Xc z]]/\dR x SS z/\1<=(aa a:Int)+1/\(aa a:Int)+1<=1000/\i0 ((aa a:Int)+1) λ d=>∀(x' z':Int),0<=x'->0<=z'->z'<=z+1->∃(x:(Int×Int)×Int×Int),lx xs xs <| p.4=p.4/\x'=x.fst.fst/\SS=p.y/\z'=x.fst.snd/\a=a/\b=b/\p.wy=p.wy/\p.cd=p.cd/\p.3=p.3/\0=x.snd.fst/\d=x.snd.snd/\bJ (22:Int) x.fst/\ka [a,b] x.snd.fst x.snd.snd)/\∀(x' z':Int),0<=x'->0<=z'->z'<=z+1->(-2:Int)<=1/\(1:Int)<2/\2<=1048576/\aa b<=1048576/\∃(x:Int),∃(SS:Int),∃(z:Int), [Xi [Xc x',Xc y,Xc z']]= [Xi [Xc x,Xc SS,Xc z]]/\dR x SS z/\1<=(aa b:Int)+1/\(aa b:Int)+1<=1000/\i0 ((aa b:Int)+1) λ d=>∀(x' z':Int),0<=x'->0<=z'->z'<=z+1->∃(x:(Int×Int)×Int×Int),lx xs xs <| p.4=p.4/\x'=x.fst.fst/\SS=p.y/\z'=x.fst.snd/\a=a/\b=b/\p.wy=p.wy/\p.cd=p.cd/\p.3=p.3/\1=x.snd.fst/\d=x.snd.snd/\bJ (22:Int) x.fst/\ka [a,b] x.snd.fst x.snd.snd
theorem Qn(h:BD xs p t q Q R a b c wh sp f ok okn x):aL (aN [(603,j_)]) (cR q aS) 60 (cG 4 6) ⟨i5 p,eU xs p t++ia a b⟩ (dF (J2 xs p [a,b] (ia a b)) (bg 3 Q)) (dN R):=kq h
def BE(xs:Lx)(p:LP)(t:Int×Int)(q:ab)(Q:Tq)(R:Tr)(a b c:bp)(wh sp:Int)(f:Ln)(ok:bC->Prop)(okn:bu->Prop)(x:bC):Prop:=bif W_ (p.cd<32) then 0<=p.cd/\p.cd<=1114111/\bif W_ (p.wy= 0) then ∃(f:Ln),lx xs xs <| p.4=p.4/\t.fst=t.fst/\p.y=p.y/\t.snd=t.snd/\a=a/\b=b/\p.wy=p.wy/\p.3=p.3/\wh=wh/\sp=sp/\ [au p.cd]=f/\(p.wy= 0->∃(o:Nat),f= [o]/\ey o)/\(p.wy= 1->f= [92,98])/\(1<p.wy->f= []) else bif W_ (p.wy= 1) then ∃(f:Ln),lx xs xs <| p.4=p.4/\t.fst=t.fst/\p.y=p.y/\t.snd=t.snd/\a=a/\b=b/\p.wy=p.wy/\p.3=p.3/\wh=wh/\sp=sp/\ [92,98]=f/\(p.wy= 0->∃(o:Nat),f= [o]/\ey o)/\(p.wy= 1->f= [92,98])/\(1<p.wy->f= []) else ∃(f:Ln),lx xs xs <| p.4=p.4/\t.fst=t.fst/\p.y=p.y/\t.snd=t.snd/\a=a/\b=b/\p.wy=p.wy/\p.3=p.3/\wh=wh/\sp=sp/\ []=f/\(p.wy= 0->∃(o:Nat),f= [o]/\ey o)/\(p.wy= 1->f= [92,98])/\(1<p.wy->f= []) else(-2)<=p.cd - (32:Int)/\p.cd - (32:Int)<2/\2<=1048576/\0<=ay [(127:Int),(200:Int)] (bH (p.cd - (32:Int)) 2) (0:Int)/\ay [(127:Int),(200:Int)] (bH (p.cd - (32:Int)) 2) (0:Int)<=1114111/\bif W_ (p.wy= 0) then ∃(f:Ln),lx xs xs <| p.4=p.4/\t.fst=t.fst/\p.y=p.y/\t.snd=t.snd/\a=a/\b=b/\p.wy=p.wy/\p.3=p.3/\wh=wh/\sp=sp/\ [au (ay [(127:Int),(200:Int)] (bH (p.cd - (32:Int)) 2) (0:Int))]=f/\(p.wy= 0->∃(o:Nat),f= [o]/\ey o)/\(p.wy= 1->f= [92,98])/\(1<p.wy->f= []) else bif W_ (p.wy= 1) then ∃(f:Ln),lx xs xs <| p.4=p.4/\t.fst=t.fst/\p.y=p.y/\t.snd=t.snd/\a=a/\b=b/\p.wy=p.wy/\p.3=p.3/\wh=wh/\sp=sp/\ [92,98]=f/\(p.wy= 0->∃(o:Nat),f= [o]/\ey o)/\(p.wy= 1->f= [92,98])/\(1<p.wy->f= []) else ∃(f:Ln),lx xs xs <| p.4=p.4/\t.fst=t.fst/\p.y=p.y/\t.snd=t.snd/\a=a/\b=b/\p.wy=p.wy/\p.3=p.3/\wh=wh/\sp=sp/\ []=f/\(p.wy= 0->∃(o:Nat),f= [o]/\ey o)/\(p.wy= 1->f= [92,98])/\(1<p.wy->f= [])
theorem BF(h:BE xs p t q Q R a b c wh sp f ok okn x):aL (aN []) (cR q aS) 60 (cG 6 8) ⟨lF p wh sp,eU xs p t++ia a b⟩ (dF (JF xs p t (ia a b) wh sp) (bg 3 Q)) (dN R):=kq h
def uu(xs:Lx)(p:LP)(t:Int×Int)(q:ab)(Q:Tq)(R:Tr)(a b c:bp)(wh sp:Int)(f:Ln)(ok:bC->Prop)(okn:bu->Prop)(x:bC):Prop:=1+aa p.wd<=1048576/\aa ([91]++p.wd)+2<=1048576/\bB W7 (W6 (0:Int)) 2/\0<=1048576/\0<=1048576/\aa ([91]++p.wd++ [32,40])+0<=1048576/\aa ([91]++p.wd++ [32,40]++ae [])+1<=1048576/\(-2:Int)<=0/\(0:Int)<2/\2<=1048576/\bB W7 (W6 sp) (aa a)/\bq (af W7 (W6 sp) a)+aa (af W7 (W6 sp) a)<=1048576/\(-2:Int)<=0/\(0:Int)<2/\2<=1048576/\bB (W6 sp) W7 (aa a)/\bq (af (W6 sp) W7 a)+aa (af (W6 sp) W7 a)<=1048576/\aa (ae (af (W6 sp) W7 a))+1<=1048576/\bB (W6 (1:Int)) W7 2/\1<=1048576/\bq b+aa b<=1048576/\2+aa (ae b)<=1048576/\aa ([32,34]++ae b)+1<=1048576/\bq [[32,34]++ae b++ [34]]+aa [[32,34]++ae b++ [34]]<=1048576/\aa (ae [[32,34]++ae b++ [34]])+2<=1048576/\aa ([91]++p.wd++ [32,40]++ae []++ [34])+aa (ae (af W7 (W6 sp) a))<=1048576/\aa ([91]++p.wd++ [32,40]++ae []++ [34]++ae (af W7 (W6 sp) a))+aa f<=1048576/\aa ([91]++p.wd++ [32,40]++ae []++ [34]++ae (af W7 (W6 sp) a)++f)+aa (ae (af (W6 sp) W7 a)++ [34])<=1048576/\aa ([91]++p.wd++ [32,40]++ae []++ [34]++ae (af W7 (W6 sp) a)++f++(ae (af (W6 sp) W7 a)++ [34]))+aa (ae [[32,34]++ae b++ [34]]++ [41,93])<=1048576/\aa ([91]++p.wd++ [32,40]++ae []++ [34])+aa (ae (af W7 (W6 sp) a))<=1048576/\aa ([91]++p.wd++ [32,40]++ae []++ [34]++ae (af W7 (W6 sp) a))<=1048576/\bif W_ (p.wy= 1) then ∃(x:bC),lx xs xs <| [91]++p.wd++ [32,40]++ae []++ [34]++ae (af W7 (W6 sp) a)++f++(ae (af (W6 sp) W7 a)++ [34])++(ae [[32,34]++ae b++ [34]]++ [41,93])=x.4/\p.4=p.4/\ [91]++p.wd++ [32,40]++ae []++ [34]=x.2/\t.fst=t.fst/\p.y=p.y/\t.snd=t.snd/\a=a/\b=b/\p.wy=p.wy/\(0:Int)= 0/\(↑(aa ([91]++p.wd++ [(32:Nat),(40:Nat)]++ae []++ [(34:Nat)]++ae (af W7 (W6 sp) a))):Int)+1=x.pl/\ae (af W7 (W6 sp) a)=x.3/\ok x else ∃(x:bC),lx xs xs <| [91]++p.wd++ [32,40]++ae []++ [34]++ae (af W7 (W6 sp) a)++f++(ae (af (W6 sp) W7 a)++ [34])++(ae [[32,34]++ae b++ [34]]++ [41,93])=x.4/\p.4=p.4/\ [91]++p.wd++ [32,40]++ae []++ [34]=x.2/\t.fst=t.fst/\p.y=p.y/\t.snd=t.snd/\a=a/\b=b/\p.wy=p.wy/\(0:Int)= 0/\(↑(aa ([91]++p.wd++ [(32:Nat),(40:Nat)]++ae []++ [(34:Nat)]++ae (af W7 (W6 sp) a))):Int)+0=x.pl/\ae (af W7 (W6 sp) a)=x.3/\ok x
theorem Qo(h:uu xs p t q Q R a b c wh sp f ok okn x):aL (aN []) (cR q aS) 60 (cG 8 13) (stF xs p t (ia a b) 0 sp f) (dF (lG xs p t (ia a b) 0 ok) (bg 3 Q)) (dN R):=kq h
def uw(xs:Lx)(p:LP)(t:Int×Int)(q:ab)(Q:Tq)(R:Tr)(a b c:bp)(wh sp:Int)(f:Ln)(ok:bC->Prop)(okn:bu->Prop)(x:bC):Prop:=1+aa p.wd<=1048576/\aa ([91]++p.wd)+2<=1048576/\bB W7 (W6 (1:Int)) 2/\1<=1048576/\bq a+aa a<=1048576/\1+aa (ae a)<=1048576/\aa ([34]++ae a)+2<=1048576/\bq [[34]++ae a++ [34,32]]+aa [[34]++ae a++ [34,32]]<=1048576/\aa ([91]++p.wd++ [32,40])+aa (ae [[34]++ae a++ [34,32]])<=1048576/\aa ([91]++p.wd++ [32,40]++ae [[34]++ae a++ [34,32]])+1<=1048576/\(-2:Int)<=1/\(1:Int)<2/\2<=1048576/\bB W7 (W6 sp) (aa b)/\bq (af W7 (W6 sp) b)+aa (af W7 (W6 sp) b)<=1048576/\(-2:Int)<=1/\(1:Int)<2/\2<=1048576/\bB (W6 sp) W7 (aa b)/\bq (af (W6 sp) W7 b)+aa (af (W6 sp) W7 b)<=1048576/\aa (ae (af (W6 sp) W7 b))+1<=1048576/\bB (W6 (2:Int)) W7 2/\0<=1048576/\0<=1048576/\2<=1048576/\aa ([91]++p.wd++ [32,40]++ae [[34]++ae a++ [34,32]]++ [34])+aa (ae (af W7 (W6 sp) b))<=1048576/\aa ([91]++p.wd++ [32,40]++ae [[34]++ae a++ [34,32]]++ [34]++ae (af W7 (W6 sp) b))+aa f<=1048576/\aa ([91]++p.wd++ [32,40]++ae [[34]++ae a++ [34,32]]++ [34]++ae (af W7 (W6 sp) b)++f)+aa (ae (af (W6 sp) W7 b)++ [34])<=1048576/\aa ([91]++p.wd++ [32,40]++ae [[34]++ae a++ [34,32]]++ [34]++ae (af W7 (W6 sp) b)++f++(ae (af (W6 sp) W7 b)++ [34]))+2<=1048576/\aa ([91]++p.wd++ [32,40]++ae [[34]++ae a++ [34,32]]++ [34])+aa (ae (af W7 (W6 sp) b))<=1048576/\aa ([91]++p.wd++ [32,40]++ae [[34]++ae a++ [34,32]]++ [34]++ae (af W7 (W6 sp) b))<=1048576/\bif W_ (p.wy= 1) then ∃(x:bC),lx xs xs <| [91]++p.wd++ [32,40]++ae [[34]++ae a++ [34,32]]++ [34]++ae (af W7 (W6 sp) b)++f++(ae (af (W6 sp) W7 b)++ [34])++(ae []++ [41,93])=x.4/\p.4=p.4/\ [91]++p.wd++ [32,40]++ae [[34]++ae a++ [34,32]]++ [34]=x.2/\t.fst=t.fst/\p.y=p.y/\t.snd=t.snd/\a=a/\b=b/\p.wy=p.wy/\(1:Int)= 1/\(↑(aa ([91]++p.wd++ [(32:Nat),(40:Nat)]++ae [[(34:Nat)]++ae a++ [(34:Nat),(32:Nat)]]++ [(34:Nat)]++ae (af W7 (W6 sp) b))):Int)+1=x.pl/\ae (af W7 (W6 sp) b)=x.3/\ok x else ∃(x:bC),lx xs xs <| [91]++p.wd++ [32,40]++ae [[34]++ae a++ [34,32]]++ [34]++ae (af W7 (W6 sp) b)++f++(ae (af (W6 sp) W7 b)++ [34])++(ae []++ [41,93])=x.4/\p.4=p.4/\ [91]++p.wd++ [32,40]++ae [[34]++ae a++ [34,32]]++ [34]=x.2/\t.fst=t.fst/\p.y=p.y/\t.snd=t.snd/\a=a/\b=b/\p.wy=p.wy/\(1:Int)= 1/\(↑(aa ([91]++p.wd++ [(32:Nat),(40:Nat)]++ae [[(34:Nat)]++ae a++ [(34:Nat),(32:Nat)]]++ [(34:Nat)]++ae (af W7 (W6 sp) b))):Int)+0=x.pl/\ae (af W7 (W6 sp) b)=x.3/\ok x
theorem Qp(h:uw xs p t q Q R a b c wh sp f ok okn x):aL (aN []) (cR q aS) 60 (cG 8 13) (stF xs p t (ia a b) 1 sp f) (dF (lG xs p t (ia a b) 1 ok) (bg 3 Q)) (dN R):=kq h
def BG(xs:Lx)(p:LP)(t:Int×Int)(q:ab)(Q:Tq)(R:Tr)(a b c:bp)(wh sp:Int)(f:Ln)(ok:bC->Prop)(okn:bu->Prop)(x:bC):Prop:=bif W_ (p.wy= 2) then aa x.ft+aa x.ah<=1048576/\∃(S3:bC),lx xs xs <| x.ft++x.ah=S3.4/\p.4=p.4/\x.2=S3.2/\t.fst=t.fst/\p.y=p.y/\t.snd=t.snd/\a=a/\b=b/\p.wy=p.wy/\wh=wh/\x.pl=S3.pl/\ok S3 else ∃(S3:bC),lx xs xs <| x.4=S3.4/\p.4=p.4/\x.2=S3.2/\t.fst=t.fst/\p.y=p.y/\t.snd=t.snd/\a=a/\b=b/\p.wy=p.wy/\wh=wh/\x.pl=S3.pl/\ok S3
theorem BH(h:BG xs p t q Q R a b c wh sp f ok okn x):aL (aN []) (cR q aS) 60 (cG 13 14) (oM xs p t (ia a b) wh x) (dF (qK xs p t (ia a b) wh ok) (bg 3 Q)) (dN R):=kq h
def BI(xs:Lx)(p:LP)(t:Int×Int)(q:ab)(Q:Tq)(R:Tr)(a b c:bp)(wh sp:Int)(f:Ln)(ok:bC->Prop)(okn:bu->Prop)(x:bC):Prop:=2<=1048576/\aa a<=1048576/\(∃(y:Ll),lx xs xs <| x.4=x.4/\p.4=p.4/\x.2=x.2/\t.fst=t.fst/\p.y=p.y/\t.snd=t.snd/\a=a/\b=b/\ []=y/\y= [])/\(∀(i:Nat) (y:Ll),i<aa a->y=bT (λ i=>af (W6 (-1:Int)) W7 (ay a i [])) i->a=a/\Eq (α:=Option Int) W7 W7/\bB (W6 (-1:Int)) W7 (aa (ay a i []))/\∃(z:Ll),lx xs xs <| x.4=x.4/\p.4=p.4/\x.2=x.2/\t.fst=t.fst/\p.y=p.y/\t.snd=t.snd/\a=a/\b=b/\y++ [dJ (bH (-1:Int) (aa (ay a i []))) (ay a i [])]=z/\z=bT (λ i=>af (W6 (-1:Int)) W7 (ay a i [])) (i+1))/\∀(y:Ll),y=bT (λ i=>af (W6 (-1:Int)) W7 (ay a i [])) (aa a)->a=a/\bq y+aa y<=1048576/\aa b<=1048576/\(∃(SS:Ll),lx xs xs <| x.4=x.4/\p.4=p.4/\x.2=x.2/\t.fst=t.fst/\p.y=p.y/\t.snd=t.snd/\a=a/\b=b/\y=y/\ []=SS/\SS= [])/\(∀(i:Nat) (SS:Ll),i<aa b->SS=bT (λ i=>af (W6 (-1:Int)) W7 (ay b i [])) i->b=b/\Eq (α:=Option Int) W7 W7/\bB (W6 (-1:Int)) W7 (aa (ay b i []))/\∃(z:Ll),lx xs xs <| x.4=x.4/\p.4=p.4/\x.2=x.2/\t.fst=t.fst/\p.y=p.y/\t.snd=t.snd/\a=a/\b=b/\y=y/\SS++ [dJ (bH (-1:Int) (aa (ay b i []))) (ay b i [])]=z/\z=bT (λ i=>af (W6 (-1:Int)) W7 (ay b i [])) (i+1))/\∀(SS:Ll),SS=bT (λ i=>af (W6 (-1:Int)) W7 (ay b i [])) (aa b)->b=b/\bq SS+aa SS<=1048576/\2<=1048576/\∃(S3:bu),lx xs xs <| x.4=S3.b.tx/\p.4=p.4/\x.2=S3.b.ft/\t.fst=t.fst/\p.y=p.y/\t.snd=t.snd/\ [ae y,ae SS]=S3.nm/\p.wy=p.wy/\wh=S3.wh/\x.pl=S3.b.pl/\okn S3
theorem BJ(h:BI xs p t q Q R a b c wh sp f ok okn x):aL (aN []) (cR q qJ) 60 (cG 14 15) (oN xs p t (ia a b) wh x) (dF (JN xs p t okn) (bg 3 Q)) (dN R):=kq h
def BK(xs:Lx)(p:LP)(t:Int×Int)(q:ab)(Q:Tq)(R:Tr)(a b c:bp)(wh sp:Int)(f:Ln)(ok:bC->Prop)(okn:bu->Prop)(x:bC):Prop:=3<=1048576/\∃(x:Int),∃(y:Int),∃(z:Int), [Xi [Xc t.fst,Xc p.y,Xc t.snd]]= [Xi [Xc x,Xc y,Xc z]]/\dR x y z/\(1:Int)<=3/\(3:Int)<=1000/\(∀(x' z':Int),0<=x'->0<=z'->z'<=z+1->(-3:Int)<=0/\(0:Int)<3/\3<=1048576/\aa a<=1048576/\∃(x:Int),∃(SS:Int),∃(z:Int), [Xi [Xc x',Xc y,Xc z']]= [Xi [Xc x,Xc SS,Xc z]]/\dR x SS z/\1<=(aa a:Int)+1/\(aa a:Int)+1<=1000/\i0 ((aa a:Int)+1) λ d=>∀(x' z':Int),0<=x'->0<=z'->z'<=z+1->∃(x:(Int×Int)×Int×Int),lx xs xs <| p.4=p.4/\x'=x.fst.fst/\SS=p.y/\z'=x.fst.snd/\a=a/\b=b/\c=c/\p.wy=p.wy/\p.cd=p.cd/\p.3=p.3/\0=x.snd.fst/\d=x.snd.snd/\bJ (22:Int) x.fst/\ka [a,b,c] x.snd.fst x.snd.snd)/\(∀(x' z':Int),0<=x'->0<=z'->z'<=z+1->(-3:Int)<=1/\(1:Int)<3/\3<=1048576/\aa b<=1048576/\∃(x:Int),∃(SS:Int),∃(z:Int), [Xi [Xc x',Xc y,Xc z']]= [Xi [Xc x,Xc SS,Xc z]]/\dR x SS z/\1<=(aa b:Int)+1/\(aa b:Int)+1<=1000/\i0 ((aa b:Int)+1) λ d=>∀(x' z':Int),0<=x'->0<=z'->z'<=z+1->∃(x:(Int×Int)×Int×Int),lx xs xs <| p.4=p.4/\x'=x.fst.fst/\SS=p.y/\z'=x.fst.snd/\a=a/\b=b/\c=c/\p.wy=p.wy/\p.cd=p.cd/\p.3=p.3/\1=x.snd.fst/\d=x.snd.snd/\bJ (22:Int) x.fst/\ka [a,b,c] x.snd.fst x.snd.snd)/\∀(x' z':Int),0<=x'->0<=z'->z'<=z+1->(-3:Int)<=2/\(2:Int)<3/\3<=1048576/\aa c<=1048576/\∃(x:Int),∃(SS:Int),∃(z:Int), [Xi [Xc x',Xc y,Xc z']]= [Xi [Xc x,Xc SS,Xc z]]/\dR x SS z/\1<=(aa c:Int)+1/\(aa c:Int)+1<=1000/\i0 ((aa c:Int)+1) λ d=>∀(x' z':Int),0<=x'->0<=z'->z'<=z+1->∃(x:(Int×Int)×Int×Int),lx xs xs <| p.4=p.4/\x'=x.fst.fst/\SS=p.y/\z'=x.fst.snd/\a=a/\b=b/\c=c/\p.wy=p.wy/\p.cd=p.cd/\p.3=p.3/\2=x.snd.fst/\d=x.snd.snd/\bJ (22:Int) x.fst/\ka [a,b,c] x.snd.fst x.snd.snd
theorem Qq(h:BK xs p t q Q R a b c wh sp f ok okn x):aL (aN [(603,j_)]) (cR q aS) 60 (cG 4 6) ⟨i5 p,eU xs p t++gu a b c⟩ (dF (J2 xs p [a,b,c] (gu a b c)) (bg 3 Q)) (dN R):=kq h
def BL(xs:Lx)(p:LP)(t:Int×Int)(q:ab)(Q:Tq)(R:Tr)(a b c:bp)(wh sp:Int)(f:Ln)(ok:bC->Prop)(okn:bu->Prop)(x:bC):Prop:=bif W_ (p.cd<32) then 0<=p.cd/\p.cd<=1114111/\bif W_ (p.wy= 0) then ∃(f:Ln),lx xs xs <| p.4=p.4/\t.fst=t.fst/\p.y=p.y/\t.snd=t.snd/\a=a/\b=b/\c=c/\p.wy=p.wy/\p.3=p.3/\wh=wh/\sp=sp/\ [au p.cd]=f/\(p.wy= 0->∃(o:Nat),f= [o]/\ey o)/\(p.wy= 1->f= [92,98])/\(1<p.wy->f= []) else bif W_ (p.wy= 1) then ∃(f:Ln),lx xs xs <| p.4=p.4/\t.fst=t.fst/\p.y=p.y/\t.snd=t.snd/\a=a/\b=b/\c=c/\p.wy=p.wy/\p.3=p.3/\wh=wh/\sp=sp/\ [92,98]=f/\(p.wy= 0->∃(o:Nat),f= [o]/\ey o)/\(p.wy= 1->f= [92,98])/\(1<p.wy->f= []) else ∃(f:Ln),lx xs xs <| p.4=p.4/\t.fst=t.fst/\p.y=p.y/\t.snd=t.snd/\a=a/\b=b/\c=c/\p.wy=p.wy/\p.3=p.3/\wh=wh/\sp=sp/\ []=f/\(p.wy= 0->∃(o:Nat),f= [o]/\ey o)/\(p.wy= 1->f= [92,98])/\(1<p.wy->f= []) else(-2)<=p.cd - (32:Int)/\p.cd - (32:Int)<2/\2<=1048576/\0<=ay [(127:Int),(200:Int)] (bH (p.cd - (32:Int)) 2) (0:Int)/\ay [(127:Int),(200:Int)] (bH (p.cd - (32:Int)) 2) (0:Int)<=1114111/\bif W_ (p.wy= 0) then ∃(f:Ln),lx xs xs <| p.4=p.4/\t.fst=t.fst/\p.y=p.y/\t.snd=t.snd/\a=a/\b=b/\c=c/\p.wy=p.wy/\p.3=p.3/\wh=wh/\sp=sp/\ [au (ay [(127:Int),(200:Int)] (bH (p.cd - (32:Int)) 2) (0:Int))]=f/\(p.wy= 0->∃(o:Nat),f= [o]/\ey o)/\(p.wy= 1->f= [92,98])/\(1<p.wy->f= []) else bif W_ (p.wy= 1) then ∃(f:Ln),lx xs xs <| p.4=p.4/\t.fst=t.fst/\p.y=p.y/\t.snd=t.snd/\a=a/\b=b/\c=c/\p.wy=p.wy/\p.3=p.3/\wh=wh/\sp=sp/\ [92,98]=f/\(p.wy= 0->∃(o:Nat),f= [o]/\ey o)/\(p.wy= 1->f= [92,98])/\(1<p.wy->f= []) else ∃(f:Ln),lx xs xs <| p.4=p.4/\t.fst=t.fst/\p.y=p.y/\t.snd=t.snd/\a=a/\b=b/\c=c/\p.wy=p.wy/\p.3=p.3/\wh=wh/\sp=sp/\ []=f/\(p.wy= 0->∃(o:Nat),f= [o]/\ey o)/\(p.wy= 1->f= [92,98])/\(1<p.wy->f= [])
theorem ux(h:BL xs p t q Q R a b c wh sp f ok okn x):aL (aN []) (cR q aS) 60 (cG 6 8) ⟨lF p wh sp,eU xs p t++gu a b c⟩ (dF (JF xs p t (gu a b c) wh sp) (bg 3 Q)) (dN R):=kq h
def uy(xs:Lx)(p:LP)(t:Int×Int)(q:ab)(Q:Tq)(R:Tr)(a b c:bp)(wh sp:Int)(f:Ln)(ok:bC->Prop)(okn:bu->Prop)(x:bC):Prop:=1+aa p.wd<=1048576/\aa ([91]++p.wd)+2<=1048576/\bB W7 (W6 (0:Int)) 3/\0<=1048576/\0<=1048576/\aa ([91]++p.wd++ [32,40])+0<=1048576/\aa ([91]++p.wd++ [32,40]++ae [])+1<=1048576/\(-3:Int)<=0/\(0:Int)<3/\3<=1048576/\bB W7 (W6 sp) (aa a)/\bq (af W7 (W6 sp) a)+aa (af W7 (W6 sp) a)<=1048576/\(-3:Int)<=0/\(0:Int)<3/\3<=1048576/\bB (W6 sp) W7 (aa a)/\bq (af (W6 sp) W7 a)+aa (af (W6 sp) W7 a)<=1048576/\aa (ae (af (W6 sp) W7 a))+1<=1048576/\bB (W6 (1:Int)) W7 3/\2<=1048576/\bq b+aa b<=1048576/\2+aa (ae b)<=1048576/\aa ([32,34]++ae b)+1<=1048576/\bq c+aa c<=1048576/\2+aa (ae c)<=1048576/\aa ([32,34]++ae c)+1<=1048576/\bq [[32,34]++ae b++ [34], [32,34]++ae c++ [34]]+aa [[32,34]++ae b++ [34], [32,34]++ae c++ [34]]<=1048576/\aa (ae [[32,34]++ae b++ [34], [32,34]++ae c++ [34]])+2<=1048576/\aa ([91]++p.wd++ [32,40]++ae []++ [34])+aa (ae (af W7 (W6 sp) a))<=1048576/\aa ([91]++p.wd++ [32,40]++ae []++ [34]++ae (af W7 (W6 sp) a))+aa f<=1048576/\aa ([91]++p.wd++ [32,40]++ae []++ [34]++ae (af W7 (W6 sp) a)++f)+aa (ae (af (W6 sp) W7 a)++ [34])<=1048576/\aa ([91]++p.wd++ [32,40]++ae []++ [34]++ae (af W7 (W6 sp) a)++f++(ae (af (W6 sp) W7 a)++ [34]))+aa (ae [[32,34]++ae b++ [34], [32,34]++ae c++ [34]]++ [41,93])<=1048576/\aa ([91]++p.wd++ [32,40]++ae []++ [34])+aa (ae (af W7 (W6 sp) a))<=1048576/\aa ([91]++p.wd++ [32,40]++ae []++ [34]++ae (af W7 (W6 sp) a))<=1048576/\bif W_ (p.wy= 1) then ∃(x:bC),lx xs xs <| [91]++p.wd++ [32,40]++ae []++ [34]++ae (af W7 (W6 sp) a)++f++(ae (af (W6 sp) W7 a)++ [34])++(ae [[32,34]++ae b++ [34], [32,34]++ae c++ [34]]++ [41,93])=x.4/\p.4=p.4/\ [91]++p.wd++ [32,40]++ae []++ [34]=x.2/\t.fst=t.fst/\p.y=p.y/\t.snd=t.snd/\a=a/\b=b/\c=c/\p.wy=p.wy/\(0:Int)= 0/\(↑(aa ([(91:Nat)]++p.wd++ [(32:Nat),(40:Nat)]++ae []++ [(34:Nat)]++ae (af W7 (W6 sp) a))):Int)+1=x.pl/\ae (af W7 (W6 sp) a)=x.3/\ok x else ∃(x:bC),lx xs xs <| [91]++p.wd++ [32,40]++ae []++ [34]++ae (af W7 (W6 sp) a)++f++(ae (af (W6 sp) W7 a)++ [34])++(ae [[32,34]++ae b++ [34], [32,34]++ae c++ [34]]++ [41,93])=x.4/\p.4=p.4/\ [91]++p.wd++ [32,40]++ae []++ [34]=x.2/\t.fst=t.fst/\p.y=p.y/\t.snd=t.snd/\a=a/\b=b/\c=c/\p.wy=p.wy/\(0:Int)= 0/\(↑(aa ([(91:Nat)]++p.wd++ [(32:Nat),(40:Nat)]++ae []++ [(34:Nat)]++ae (af W7 (W6 sp) a))):Int)+0=x.pl/\ae (af W7 (W6 sp) a)=x.3/\ok x
theorem Qr(h:uy xs p t q Q R a b c wh sp f ok okn x):aL (aN []) (cR q aS) 60 (cG 8 13) (stF xs p t (gu a b c) 0 sp f) (dF (lG xs p t (gu a b c) 0 ok) (bg 3 Q)) (dN R):=kq h
def uz(xs:Lx)(p:LP)(t:Int×Int)(q:ab)(Q:Tq)(R:Tr)(a b c:bp)(wh sp:Int)(f:Ln)(ok:bC->Prop)(okn:bu->Prop)(x:bC):Prop:=1+aa p.wd<=1048576/\aa ([91]++p.wd)+2<=1048576/\bB W7 (W6 (1:Int)) 3/\1<=1048576/\bq a+aa a<=1048576/\1+aa (ae a)<=1048576/\aa ([34]++ae a)+2<=1048576/\bq [[34]++ae a++ [34,32]]+aa [[34]++ae a++ [34,32]]<=1048576/\aa ([91]++p.wd++ [32,40])+aa (ae [[34]++ae a++ [34,32]])<=1048576/\aa ([91]++p.wd++ [32,40]++ae [[34]++ae a++ [34,32]])+1<=1048576/\(-3:Int)<=1/\(1:Int)<3/\3<=1048576/\bB W7 (W6 sp) (aa b)/\bq (af W7 (W6 sp) b)+aa (af W7 (W6 sp) b)<=1048576/\(-3:Int)<=1/\(1:Int)<3/\3<=1048576/\bB (W6 sp) W7 (aa b)/\bq (af (W6 sp) W7 b)+aa (af (W6 sp) W7 b)<=1048576/\aa (ae (af (W6 sp) W7 b))+1<=1048576/\bB (W6 (2:Int)) W7 3/\1<=1048576/\bq c+aa c<=1048576/\2+aa (ae c)<=1048576/\aa ([32,34]++ae c)+1<=1048576/\bq [[32,34]++ae c++ [34]]+aa [[32,34]++ae c++ [34]]<=1048576/\aa (ae [[32,34]++ae c++ [34]])+2<=1048576/\aa ([91]++p.wd++ [32,40]++ae [[34]++ae a++ [34,32]]++ [34])+aa (ae (af W7 (W6 sp) b))<=1048576/\aa ([91]++p.wd++ [32,40]++ae [[34]++ae a++ [34,32]]++ [34]++ae (af W7 (W6 sp) b))+aa f<=1048576/\aa ([91]++p.wd++ [32,40]++ae [[34]++ae a++ [34,32]]++ [34]++ae (af W7 (W6 sp) b)++f)+aa (ae (af (W6 sp) W7 b)++ [34])<=1048576/\aa ([91]++p.wd++ [32,40]++ae [[34]++ae a++ [34,32]]++ [34]++ae (af W7 (W6 sp) b)++f++(ae (af (W6 sp) W7 b)++ [34]))+aa (ae [[32,34]++ae c++ [34]]++ [41,93])<=1048576/\aa ([91]++p.wd++ [32,40]++ae [[34]++ae a++ [34,32]]++ [34])+aa (ae (af W7 (W6 sp) b))<=1048576/\aa ([91]++p.wd++ [32,40]++ae [[34]++ae a++ [34,32]]++ [34]++ae (af W7 (W6 sp) b))<=1048576/\bif W_ (p.wy= 1) then ∃(x:bC),lx xs xs <| [91]++p.wd++ [32,40]++ae [[34]++ae a++ [34,32]]++ [34]++ae (af W7 (W6 sp) b)++f++(ae (af (W6 sp) W7 b)++ [34])++(ae [[32,34]++ae c++ [34]]++ [41,93])=x.4/\p.4=p.4/\ [91]++p.wd++ [32,40]++ae [[34]++ae a++ [34,32]]++ [34]=x.2/\t.fst=t.fst/\p.y=p.y/\t.snd=t.snd/\a=a/\b=b/\c=c/\p.wy=p.wy/\(1:Int)= 1/\(↑(aa ([(91:Nat)]++p.wd++ [(32:Nat),(40:Nat)]++ae [[(34:Nat)]++ae a++ [(34:Nat),(32:Nat)]]++ [(34:Nat)]++ae (af W7 (W6 sp) b))):Int)+1=x.pl/\ae (af W7 (W6 sp) b)=x.3/\ok x else ∃(x:bC),lx xs xs <| [91]++p.wd++ [32,40]++ae [[34]++ae a++ [34,32]]++ [34]++ae (af W7 (W6 sp) b)++f++(ae (af (W6 sp) W7 b)++ [34])++(ae [[32,34]++ae c++ [34]]++ [41,93])=x.4/\p.4=p.4/\ [91]++p.wd++ [32,40]++ae [[34]++ae a++ [34,32]]++ [34]=x.2/\t.fst=t.fst/\p.y=p.y/\t.snd=t.snd/\a=a/\b=b/\c=c/\p.wy=p.wy/\(1:Int)= 1/\(↑(aa ([(91:Nat)]++p.wd++ [(32:Nat),(40:Nat)]++ae [[(34:Nat)]++ae a++ [(34:Nat),(32:Nat)]]++ [(34:Nat)]++ae (af W7 (W6 sp) b))):Int)+0=x.pl/\ae (af W7 (W6 sp) b)=x.3/\ok x
theorem Qs(h:uz xs p t q Q R a b c wh sp f ok okn x):aL (aN []) (cR q aS) 60 (cG 8 13) (stF xs p t (gu a b c) 1 sp f) (dF (lG xs p t (gu a b c) 1 ok) (bg 3 Q)) (dN R):=kq h
def uA(xs:Lx)(p:LP)(t:Int×Int)(q:ab)(Q:Tq)(R:Tr)(a b c:bp)(wh sp:Int)(f:Ln)(ok:bC->Prop)(okn:bu->Prop)(x:bC):Prop:=1+aa p.wd<=1048576/\aa ([91]++p.wd)+2<=1048576/\bB W7 (W6 (2:Int)) 3/\2<=1048576/\bq a+aa a<=1048576/\1+aa (ae a)<=1048576/\aa ([34]++ae a)+2<=1048576/\bq b+aa b<=1048576/\1+aa (ae b)<=1048576/\aa ([34]++ae b)+2<=1048576/\bq [[34]++ae a++ [34,32], [34]++ae b++ [34,32]]+aa [[34]++ae a++ [34,32], [34]++ae b++ [34,32]]<=1048576/\aa ([91]++p.wd++ [32,40])+aa (ae [[34]++ae a++ [34,32], [34]++ae b++ [34,32]])<=1048576/\aa ([91]++p.wd++ [32,40]++ae [[34]++ae a++ [34,32], [34]++ae b++ [34,32]])+1<=1048576/\(-3:Int)<=2/\(2:Int)<3/\3<=1048576/\bB W7 (W6 sp) (aa c)/\bq (af W7 (W6 sp) c)+aa (af W7 (W6 sp) c)<=1048576/\(-3:Int)<=2/\(2:Int)<3/\3<=1048576/\bB (W6 sp) W7 (aa c)/\bq (af (W6 sp) W7 c)+aa (af (W6 sp) W7 c)<=1048576/\aa (ae (af (W6 sp) W7 c))+1<=1048576/\bB (W6 (3:Int)) W7 3/\0<=1048576/\0<=1048576/\2<=1048576/\aa ([91]++p.wd++ [32,40]++ae [[34]++ae a++ [34,32], [34]++ae b++ [34,32]]++ [34])+aa (ae (af W7 (W6 sp) c))<=1048576/\aa ([91]++p.wd++ [32,40]++ae [[34]++ae a++ [34,32], [34]++ae b++ [34,32]]++ [34]++ae (af W7 (W6 sp) c))+aa f<=1048576/\aa ([91]++p.wd++ [32,40]++ae [[34]++ae a++ [34,32], [34]++ae b++ [34,32]]++ [34]++ae (af W7 (W6 sp) c)++f)+aa (ae (af (W6 sp) W7 c)++ [34])<=1048576/\aa ([91]++p.wd++ [32,40]++ae [[34]++ae a++ [34,32], [34]++ae b++ [34,32]]++ [34]++ae (af W7 (W6 sp) c)++f++(ae (af (W6 sp) W7 c)++ [34]))+2<=1048576/\aa ([91]++p.wd++ [32,40]++ae [[34]++ae a++ [34,32], [34]++ae b++ [34,32]]++ [34])+aa (ae (af W7 (W6 sp) c))<=1048576/\aa ([91]++p.wd++ [32,40]++ae [[34]++ae a++ [34,32], [34]++ae b++ [34,32]]++ [34]++ae (af W7 (W6 sp) c))<=1048576/\bif W_ (p.wy= 1) then ∃(x:bC),lx xs xs <| [91]++p.wd++ [32,40]++ae [[34]++ae a++ [34,32], [34]++ae b++ [34,32]]++ [34]++ae (af W7 (W6 sp) c)++f++(ae (af (W6 sp) W7 c)++ [34])++(ae []++ [41,93])=x.4/\p.4=p.4/\ [91]++p.wd++ [32,40]++ae [[34]++ae a++ [34,32], [34]++ae b++ [34,32]]++ [34]=x.2/\t.fst=t.fst/\p.y=p.y/\t.snd=t.snd/\a=a/\b=b/\c=c/\p.wy=p.wy/\(2:Int)= 2/\(↑(aa ([(91:Nat)]++p.wd++ [(32:Nat),(40:Nat)]++ae [[(34:Nat)]++ae a++ [(34:Nat),(32:Nat)], [(34:Nat)]++ae b++ [(34:Nat),(32:Nat)]]++ [(34:Nat)]++ae (af W7 (W6 sp) c))):Int)+1=x.pl/\ae (af W7 (W6 sp) c)=x.3/\ok x else ∃(x:bC),lx xs xs <| [91]++p.wd++ [32,40]++ae [[34]++ae a++ [34,32], [34]++ae b++ [34,32]]++ [34]++ae (af W7 (W6 sp) c)++f++(ae (af (W6 sp) W7 c)++ [34])++(ae []++ [41,93])=x.4/\p.4=p.4/\ [91]++p.wd++ [32,40]++ae [[34]++ae a++ [34,32], [34]++ae b++ [34,32]]++ [34]=x.2/\t.fst=t.fst/\p.y=p.y/\t.snd=t.snd/\a=a/\b=b/\c=c/\p.wy=p.wy/\(2:Int)= 2/\(↑(aa ([(91:Nat)]++p.wd++ [(32:Nat),(40:Nat)]++ae [[(34:Nat)]++ae a++ [(34:Nat),(32:Nat)], [(34:Nat)]++ae b++ [(34:Nat),(32:Nat)]]++ [(34:Nat)]++ae (af W7 (W6 sp) c))):Int)+0=x.pl/\ae (af W7 (W6 sp) c)=x.3/\ok x
theorem Qt(h:uA xs p t q Q R a b c wh sp f ok okn x):aL (aN []) (cR q aS) 60 (cG 8 13) (stF xs p t (gu a b c) 2 sp f) (dF (lG xs p t (gu a b c) 2 ok) (bg 3 Q)) (dN R):=kq h
def BM(xs:Lx)(p:LP)(t:Int×Int)(q:ab)(Q:Tq)(R:Tr)(a b c:bp)(wh sp:Int)(f:Ln)(ok:bC->Prop)(okn:bu->Prop)(x:bC):Prop:=bif W_ (p.wy= 2) then aa x.ft+aa x.ah<=1048576/\∃(S3:bC),lx xs xs <| x.ft++x.ah=S3.4/\p.4=p.4/\x.2=S3.2/\t.fst=t.fst/\p.y=p.y/\t.snd=t.snd/\a=a/\b=b/\c=c/\p.wy=p.wy/\wh=wh/\x.pl=S3.pl/\ok S3 else ∃(S3:bC),lx xs xs <| x.4=S3.4/\p.4=p.4/\x.2=S3.2/\t.fst=t.fst/\p.y=p.y/\t.snd=t.snd/\a=a/\b=b/\c=c/\p.wy=p.wy/\wh=wh/\x.pl=S3.pl/\ok S3
theorem uB(h:BM xs p t q Q R a b c wh sp f ok okn x):aL (aN []) (cR q aS) 60 (cG 13 14) (oM xs p t (gu a b c) wh x) (dF (qK xs p t (gu a b c) wh ok) (bg 3 Q)) (dN R):=kq h
def BN(xs:Lx)(p:LP)(t:Int×Int)(q:ab)(Q:Tq)(R:Tr)(a b c:bp)(wh sp:Int)(f:Ln)(ok:bC->Prop)(okn:bu->Prop)(x:bC):Prop:=3<=1048576/\aa a<=1048576/\(∃(y:Ll),lx xs xs <| x.4=x.4/\p.4=p.4/\x.2=x.2/\t.fst=t.fst/\p.y=p.y/\t.snd=t.snd/\a=a/\b=b/\c=c/\ []=y/\y= [])/\(∀(i:Nat) (y:Ll),i<aa a->y=bT (λ i=>af (W6 (-1:Int)) W7 (ay a i [])) i->a=a/\Eq (α:=Option Int) W7 W7/\bB (W6 (-1:Int)) W7 (aa (ay a i []))/\∃(z:Ll),lx xs xs <| x.4=x.4/\p.4=p.4/\x.2=x.2/\t.fst=t.fst/\p.y=p.y/\t.snd=t.snd/\a=a/\b=b/\c=c/\y++ [dJ (bH (-1:Int) (aa (ay a i []))) (ay a i [])]=z/\z=bT (λ i=>af (W6 (-1:Int)) W7 (ay a i [])) (i+1))/\∀(y:Ll),y=bT (λ i=>af (W6 (-1:Int)) W7 (ay a i [])) (aa a)->a=a/\bq y+aa y<=1048576/\aa b<=1048576/\(∃(SS:Ll),lx xs xs <| x.4=x.4/\p.4=p.4/\x.2=x.2/\t.fst=t.fst/\p.y=p.y/\t.snd=t.snd/\a=a/\b=b/\c=c/\y=y/\ []=SS/\SS= [])/\(∀(i:Nat) (SS:Ll),i<aa b->SS=bT (λ i=>af (W6 (-1:Int)) W7 (ay b i [])) i->b=b/\Eq (α:=Option Int) W7 W7/\bB (W6 (-1:Int)) W7 (aa (ay b i []))/\∃(z:Ll),lx xs xs <| x.4=x.4/\p.4=p.4/\x.2=x.2/\t.fst=t.fst/\p.y=p.y/\t.snd=t.snd/\a=a/\b=b/\c=c/\y=y/\SS++ [dJ (bH (-1:Int) (aa (ay b i []))) (ay b i [])]=z/\z=bT (λ i=>af (W6 (-1:Int)) W7 (ay b i [])) (i+1))/\∀(SS:Ll),SS=bT (λ i=>af (W6 (-1:Int)) W7 (ay b i [])) (aa b)->b=b/\bq SS+aa SS<=1048576/\aa c<=1048576/\(∃(SX:Ll),lx xs xs <| x.4=x.4/\p.4=p.4/\x.2=x.2/\t.fst=t.fst/\p.y=p.y/\t.snd=t.snd/\a=a/\b=b/\c=c/\y=y/\SS=SS/\ []=SX/\SX= [])/\(∀(i:Nat) (SX:Ll),i<aa c->SX=bT (λ i=>af (W6 (-1:Int)) W7 (ay c i [])) i->c=c/\Eq (α:=Option Int) W7 W7/\bB (W6 (-1:Int)) W7 (aa (ay c i []))/\∃(z:Ll),lx xs xs <| x.4=x.4/\p.4=p.4/\x.2=x.2/\t.fst=t.fst/\p.y=p.y/\t.snd=t.snd/\a=a/\b=b/\c=c/\y=y/\SS=SS/\SX++ [dJ (bH (-1:Int) (aa (ay c i []))) (ay c i [])]=z/\z=bT (λ i=>af (W6 (-1:Int)) W7 (ay c i [])) (i+1))/\∀(SX:Ll),SX=bT (λ i=>af (W6 (-1:Int)) W7 (ay c i [])) (aa c)->c=c/\bq SX+aa SX<=1048576/\3<=1048576/\∃(S3:bu),lx xs xs <| x.4=S3.b.tx/\p.4=p.4/\x.2=S3.b.ft/\t.fst=t.fst/\p.y=p.y/\t.snd=t.snd/\ [ae y,ae SS,ae SX]=S3.nm/\p.wy=p.wy/\wh=S3.wh/\x.pl=S3.b.pl/\okn S3
theorem uC(h:BN xs p t q Q R a b c wh sp f ok okn x):aL (aN []) (cR q qJ) 60 (cG 14 15) (oN xs p t (gu a b c) wh x) (dF (JN xs p t okn) (bg 3 Q)) (dN R):=kq h
end
section
variable{w:aQ}{mg mb:Tm}{xs:Lx}{p:LP}{t:Int×Int}{q:ab}{Q:Tq}{R:Tr}{a b c:bp}{wh sp:Int}{f:Ln}{x:bC}
theorem mO(hk:1<=k)(h:∀d,0<=d->d<k->g d):i0 k g:=by
 unfold i0;cases c1:W_ (k=1) with
 | true=>exact h 0 (by decide) (by assumption)
 | false=>
  cases c2:W_ (k=2) with
  | true=>have:=of_decide_eq_true c2;exact⟨h 0 (by decide) (by assumption),h 1 (by decide) (by lia)⟩
  | false=>
   cases c3:W_ (k=3) with
   | true=>have:=of_decide_eq_true c3;exact⟨h 0 (by decide) (by assumption),h 1 (by decide) (by lia),h 2 (by decide) (by lia)⟩
   | false=>exact h
theorem ek{b:Bool}{P P':Prop}(h1:b=W8->P)(h2:b=W9->P'):cond b P P':=by
 induction b with
 | true=>exact h1 rfl
 | false=>exact h2 rfl
theorem Qu:∀{r:bp},bq r=r.flatten.length:=by
 intro r;induction r with
 | nil=>
  exact rfl
 | cons u r ih=>
  show u.length+bq r=_;rw[ih,f6,bD]
theorem BO(h:u∈bY):u.length<=2:=by
 have:∀u∈bY,u.length<=2:=by decide
 exact this u h
theorem Qw:∀{r:bp},(∀u∈r,u∈bY)->r.flatten.length<=2*r.length:=by
 intro r;induction r with
 | nil=>
  intro _;exact ba _
 | cons u r ih=>
  intro h;have h1:=BO (h u (.head _));have h2:=ih λ v hv=>h v (.tail _ hv);rw[f6,bD,df];lia
theorem aM.len(h:aM r):r.length<=4/\r.flatten.length<=8/\bq r<=8:=by
 have h1:=Qw h.2;have h2:=h.1;rw[Qu];exact⟨h2,by lia,by lia⟩
theorem aM.take(h:aM r):aM (r.take n):=⟨by rw[iF];have:=h.1;lia,λ u hu=>h.2 u (lM hu)⟩
theorem aM.drop(h:aM r):aM (r.drop n):=⟨by rw[gQ];have:=h.1;lia,λ u hu=>h.2 u (kn hu)⟩
theorem iC{α:Type}{l:List α}(h:0<=sp):af (W6 sp) W7 l=l.drop sp.toNat:=by
 show l.drop (bH sp l.length)=_;induction sp with
 | ofNat n=>rfl
 | negSucc n=>contradiction
theorem lH(h:dA p):p.wd.length<=21:=by
 have:∀u∈gr,u.length<=21:=by decide
 exact this _ h.2.2.2.2.1
theorem mP(h:jk p.wy f)(hp:dA p):f.length<=2:=by
 revert h;refine du λ h1 h2 h3=> ?_;have:p.wy=0∨p.wy=1∨1<p.wy:=by have:=hp.1;lia
 rcases this with e | e | e
 ·obtain⟨o,rfl,_⟩:=h1 e;exact Nat.le_succ 1
 ·rw[h2 e];decide
 ·rw[h3 e];decide
theorem mQ(h:aM r):bB (W6 (-1:Int)) W7 (aa (ay r i [])):=by
 refine⟨.inr ⟨by decide,rfl⟩,trivial, ?_⟩
 rw[dX]
 by_cases hi:i<r.length
 ·rw[bP hi]
  have:=BO (h.2 _ (m_ hi));show (r[i]).length<=_;lia
 ·rw[m5 (by exact jF ‹_›)];decide
theorem iD:bT (λ i=>af (W6 (-1:Int)) W7 (ay r i [])) r.length=r.map λ u=>af (W6 (-1)) W7 u:=oq
theorem mR(h:aM r):bq (r.map λ u=>af (W6 (-1)) W7 u)+(r.map λ u=>af (W6 (-1)) W7 u).length<=1048576:=by
 have h1:∀{r:bp},bq (r.map λ u=>af (W6 (-1)) W7 u)<=r.flatten.length:=by
  intro r;induction r with
  | nil=>exact ba _
  | cons u r ih=>
   show (u.drop _).length+bq (r.map λ u=>af (W6 (-1)) W7 u)<=_;rw[gQ,f6,bD];lia
 have h2:=h.len;have h3:=h1 (r:=r);rw[dq];lia
theorem s1(hp:dA p)(ht:bJ 20 t)(ha:aM a):Bz xs p t q Q R a b c wh sp f ok okn x:=by
 refine cE ha.len λ la ma na=> ?_;refine⟨by decide,_,_,_,rfl,⟨ht.1,hp.2.2.2.2.2.2.1,hp.2.2.2.2.2.2.2,ht.2.1,by have:=ht.2.2;lia⟩,by decide,by decide, ?_⟩
 ·exact λ x0 z0 a0 b0 c0=>⟨by decide,by decide,by decide,by lia,_,_,_,rfl,⟨a0,hp.2.2.2.2.2.2.1,hp.2.2.2.2.2.2.2,b0,by have:=ht.2.2;lia⟩,by lia,by lia,mO (by lia) λ d e f x1 z1 a1 b1 c1=>
   ⟨((x1,z1),0,d),fD ⟨⟨a1,b1,by have:=ht.2.2;show z1<=22;lia⟩,by show (0:Int)<=0;decide,by show (0:Int)<(1:Nat);decide,e,by show d<=(a.length:Nat);lia⟩⟩⟩
theorem f1(hp:dA p):BA xs p t q Q R a b c wh sp f ok okn x:=by
 have w0:=hp.1;have k0:=hp.2.2.1;have k1:=hp.2.2.2.1;refine ek (λ h=>⟨k0,by lia,ek (λ h1=> ?_) λ h1=>ek (λ h2=> ?_) λ h2=> ?_⟩) λ h=> ?_
 ·have:=of_decide_eq_true h
  have:=of_decide_eq_true h1;exact⟨_,fD ⟨λ _=>⟨_,rfl, .inl (by lia)⟩,λ _=>by lia,λ _=>by lia⟩⟩
 ·have:=of_decide_eq_true h2
  exact⟨_,fD ⟨λ _=>by lia,λ _=>rfl,λ _=>by lia⟩⟩
 ·have:=of_decide_eq_false h1
  have:=of_decide_eq_false h2;exact⟨_,fD ⟨λ _=>by contradiction,λ _=>by contradiction,λ _=>rfl⟩⟩
 ·have h:=of_decide_eq_false h
  have hg:ay [(127:Int),(200:Int)] (bH (p.cd - (32:Int)) 2) (0:Int)=127∨ay [(127:Int),(200:Int)] (bH (p.cd - (32:Int)) 2) (0:Int)=200:=by
   have:p.cd - 32=0∨p.cd - 32=1:=by lia
   rcases this with e | e
   ·rw[e];exact .inl rfl
   ·rw[e];exact .inr rfl
  refine⟨by lia,by lia,by decide,by lia,by lia,ek (λ h1=> ?_) λ h1=>ek (λ h2=> ?_) λ h2=> ?_⟩
  ·have:=of_decide_eq_true h1
   exact⟨_,fD ⟨λ _=>⟨_,rfl, .inr (by lia)⟩,λ _=>by lia,λ _=>by lia⟩⟩
  ·have:=of_decide_eq_true h2
   exact⟨_,fD ⟨λ _=>by lia,λ _=>rfl,λ _=>by lia⟩⟩
  ·have:=of_decide_eq_false h1
   have:=of_decide_eq_false h2;exact⟨_,fD ⟨λ _=>by contradiction,λ _=>by contradiction,λ _=>rfl⟩⟩
theorem Qx(hp:dA p)(hf:jk p.wy f)(ha:aM a)(h0:0<=sp):ur xs p t q Q R a b c wh sp f (fw p [] [] a sp) okn x:=by
 refine cE ha.len λ la ma na=> ?_;obtain⟨lt,mt,nt⟩:(af W7 (W6 sp) a).length<=4/\(af W7 (W6 sp) a).flatten.length<=8/\bq (af W7 (W6 sp) a)<=8:= (ha.take (n:=sp.toNat)).len;obtain⟨ld,md,nd⟩:(af (W6 sp) W7 a).length<=4/\(af (W6 sp) W7 a).flatten.length<=8/\bq (af (W6 sp) W7 a)<=8:=by rw[iC h0];exact ha.drop.len
 have lw:=lH hp;have lf:=mP hf hp;have fin:∀k:Int,k= (if p.wy=1 then 1 else 0)->fw p [] [] a sp ⟨(↑(aa (ew p.wd []++(af W7 (W6 sp) a).flatten)):Int)+k,ew p.wd [],(af W7 (W6 sp) a).flatten,ew p.wd []++(af W7 (W6 sp) a).flatten++f++((af (W6 sp) W7 a).flatten++ [34])++kb []⟩:=λ k hk=>⟨rfl,rfl,by rw[hk];rfl,f,hf,by rw[iC h0]⟩
 unfold ur
 repeat' apply ik
 all_goals first
  | decide
  | lia
  | exact trivial
  | exact .inl h0
  | (simp only[f6,o5,bD,df,fM,bq];lia)
  | skip
 exact ek (λ h=>⟨_,rfl,rfl,rfl,rfl,rfl,rfl,rfl,rfl,rfl,rfl,rfl,rfl,rfl,rfl,rfl,fin 1 (by rw[if_pos (of_decide_eq_true h)])⟩) λ h=>⟨_,rfl,rfl,rfl,rfl,rfl,rfl,rfl,rfl,rfl,rfl,rfl,rfl,rfl,rfl,rfl,fin 0 (by rw[if_neg (of_decide_eq_false h)])⟩
theorem i1{P S:List bp}{cur:bp}(hl:x.ft.length+x.ah.length<=1048576)(h:fw p P S cur sp x):BB xs p t q Q R a b c wh sp f (mN p P S cur sp) okn x:=
 ek (λ e=>⟨hl,⟨x.pl,x.ft,x.ah,x.ft++x.ah⟩,fD ⟨x.tx,h,by rw[if_pos (of_decide_eq_true e)]⟩⟩) λ e=>⟨x,fD ⟨x.tx,h,by rw[if_neg (of_decide_eq_false e)]⟩⟩
theorem n1(ha:aM a)(h:okn ⟨x, [da a],wh⟩):BC xs p t q Q R a b c wh sp f ok okn x:=by
 refine cE ha.len λ la ma na=> ?_;refine⟨by decide,by lia,⟨[],rP rfl⟩,λ i y hi hy=>⟨rfl,rfl,mQ ha,_,rP ?_⟩,λ ya ea=>⟨rfl, ?_,by decide,⟨x, [ya.flatten],wh⟩,fD ?_⟩⟩
 all_goals skip
 ·rw[hy];rfl
 ·rw[ea,iD];exact mR ha
 ·rw[iD]at ea;subst ea;exact h
theorem s2(hp:dA p)(ht:bJ 20 t)(ha:aM a)(hb:aM b):BD xs p t q Q R a b c wh sp f ok okn x:=by
 refine cE ha.len λ la ma na=> ?_;refine cE hb.len λ lb mb nb=> ?_;refine⟨by decide,_,_,_,rfl,⟨ht.1,hp.2.2.2.2.2.2.1,hp.2.2.2.2.2.2.2,ht.2.1,by have:=ht.2.2;lia⟩,by decide,by decide, ?_, ?_⟩
 ·exact λ x0 z0 a0 b0 c0=>⟨by decide,by decide,by decide,by lia,_,_,_,rfl,⟨a0,hp.2.2.2.2.2.2.1,hp.2.2.2.2.2.2.2,b0,by have:=ht.2.2;lia⟩,by lia,by lia,mO (by lia) λ d e f x1 z1 a1 b1 c1=>
   ⟨((x1,z1),0,d),iq ⟨⟨a1,b1,by have:=ht.2.2;show z1<=22;lia⟩,by show (0:Int)<=0;decide,by show (0:Int)<(2:Nat);decide,e,by show d<=(a.length:Nat);lia⟩⟩⟩
 ·exact λ x0 z0 a0 b0 c0=>⟨by decide,by decide,by decide,by lia,_,_,_,rfl,⟨a0,hp.2.2.2.2.2.2.1,hp.2.2.2.2.2.2.2,b0,by have:=ht.2.2;lia⟩,by lia,by lia,mO (by lia) λ d e f x1 z1 a1 b1 c1=>
   ⟨((x1,z1),1,d),iq ⟨⟨a1,b1,by have:=ht.2.2;show z1<=22;lia⟩,by show (0:Int)<=1;decide,by show (1:Int)<(2:Nat);decide,e,by show d<=(b.length:Nat);lia⟩⟩⟩
theorem f2(hp:dA p):BE xs p t q Q R a b c wh sp f ok okn x:=by
 have w0:=hp.1;have k0:=hp.2.2.1;have k1:=hp.2.2.2.1;refine ek (λ h=>⟨k0,by lia,ek (λ h1=> ?_) λ h1=>ek (λ h2=> ?_) λ h2=> ?_⟩) λ h=> ?_
 ·have:=of_decide_eq_true h
  have:=of_decide_eq_true h1;exact⟨_,iq ⟨λ _=>⟨_,rfl, .inl (by lia)⟩,λ _=>by lia,λ _=>by lia⟩⟩
 ·have:=of_decide_eq_true h2
  exact⟨_,iq ⟨λ _=>by lia,λ _=>rfl,λ _=>by lia⟩⟩
 ·have:=of_decide_eq_false h1
  have:=of_decide_eq_false h2;exact⟨_,iq ⟨λ _=>by contradiction,λ _=>by contradiction,λ _=>rfl⟩⟩
 ·have h:=of_decide_eq_false h
  have hg:ay [(127:Int),(200:Int)] (bH (p.cd - (32:Int)) 2) (0:Int)=127∨ay [(127:Int),(200:Int)] (bH (p.cd - (32:Int)) 2) (0:Int)=200:=by
   have:p.cd - 32=0∨p.cd - 32=1:=by lia
   rcases this with e | e
   ·rw[e];exact .inl rfl
   ·rw[e];exact .inr rfl
  refine⟨by lia,by lia,by decide,by lia,by lia,ek (λ h1=> ?_) λ h1=>ek (λ h2=> ?_) λ h2=> ?_⟩
  ·have:=of_decide_eq_true h1
   exact⟨_,iq ⟨λ _=>⟨_,rfl, .inr (by lia)⟩,λ _=>by lia,λ _=>by lia⟩⟩
  ·have:=of_decide_eq_true h2
   exact⟨_,iq ⟨λ _=>by lia,λ _=>rfl,λ _=>by lia⟩⟩
  ·have:=of_decide_eq_false h1
   have:=of_decide_eq_false h2;exact⟨_,iq ⟨λ _=>by contradiction,λ _=>by contradiction,λ _=>rfl⟩⟩
theorem Qy(hp:dA p)(hf:jk p.wy f)(ha:aM a)(hb:aM b)(h0:0<=sp):uu xs p t q Q R a b c wh sp f (fw p [] [b] a sp) okn x:=by
 refine cE ha.len λ la ma na=> ?_;refine cE hb.len λ lb mb nb=> ?_;obtain⟨lt,mt,nt⟩:(af W7 (W6 sp) a).length<=4/\(af W7 (W6 sp) a).flatten.length<=8/\bq (af W7 (W6 sp) a)<=8:= (ha.take (n:=sp.toNat)).len;obtain⟨ld,md,nd⟩:(af (W6 sp) W7 a).length<=4/\(af (W6 sp) W7 a).flatten.length<=8/\bq (af (W6 sp) W7 a)<=8:=by rw[iC h0];exact ha.drop.len
 have lw:=lH hp;have lf:=mP hf hp;have fin:∀k:Int,k= (if p.wy=1 then 1 else 0)->fw p [] [b] a sp ⟨(↑(aa (ew p.wd []++(af W7 (W6 sp) a).flatten)):Int)+k,ew p.wd [],(af W7 (W6 sp) a).flatten,ew p.wd []++(af W7 (W6 sp) a).flatten++f++((af (W6 sp) W7 a).flatten++ [34])++kb [b]⟩:=λ k hk=>⟨rfl,rfl,by rw[hk];rfl,f,hf,by rw[iC h0]⟩
 unfold uu
 repeat' apply ik
 all_goals first
  | decide
  | lia
  | exact trivial
  | exact .inl h0
  | (simp only[f6,o5,bD,df,fM,bq];lia)
  | skip
 exact ek (λ h=>⟨_,rfl,rfl,rfl,rfl,rfl,rfl,rfl,rfl,rfl,rfl,rfl,rfl,rfl,rfl,rfl,rfl,fin 1 (by rw[if_pos (of_decide_eq_true h)])⟩) λ h=>⟨_,rfl,rfl,rfl,rfl,rfl,rfl,rfl,rfl,rfl,rfl,rfl,rfl,rfl,rfl,rfl,rfl,fin 0 (by rw[if_neg (of_decide_eq_false h)])⟩
theorem Qz(hp:dA p)(hf:jk p.wy f)(ha:aM a)(hb:aM b)(h0:0<=sp):uw xs p t q Q R a b c wh sp f (fw p [a] [] b sp) okn x:=by
 refine cE ha.len λ la ma na=> ?_;refine cE hb.len λ lb mb nb=> ?_;obtain⟨lt,mt,nt⟩:(af W7 (W6 sp) b).length<=4/\(af W7 (W6 sp) b).flatten.length<=8/\bq (af W7 (W6 sp) b)<=8:= (hb.take (n:=sp.toNat)).len;obtain⟨ld,md,nd⟩:(af (W6 sp) W7 b).length<=4/\(af (W6 sp) W7 b).flatten.length<=8/\bq (af (W6 sp) W7 b)<=8:=by rw[iC h0];exact hb.drop.len
 have lw:=lH hp;have lf:=mP hf hp;have fin:∀k:Int,k= (if p.wy=1 then 1 else 0)->fw p [a] [] b sp ⟨(↑(aa (ew p.wd [a]++(af W7 (W6 sp) b).flatten)):Int)+k,ew p.wd [a],(af W7 (W6 sp) b).flatten,ew p.wd [a]++(af W7 (W6 sp) b).flatten++f++((af (W6 sp) W7 b).flatten++ [34])++kb []⟩:=λ k hk=>⟨rfl,rfl,by rw[hk];rfl,f,hf,by rw[iC h0]⟩
 unfold uw
 repeat' apply ik
 all_goals first
  | decide
  | lia
  | exact trivial
  | exact .inl h0
  | (simp only[f6,o5,bD,df,fM,bq];lia)
  | skip
 exact ek (λ h=>⟨_,rfl,rfl,rfl,rfl,rfl,rfl,rfl,rfl,rfl,rfl,rfl,rfl,rfl,rfl,rfl,rfl,fin 1 (by rw[if_pos (of_decide_eq_true h)])⟩) λ h=>⟨_,rfl,rfl,rfl,rfl,rfl,rfl,rfl,rfl,rfl,rfl,rfl,rfl,rfl,rfl,rfl,rfl,fin 0 (by rw[if_neg (of_decide_eq_false h)])⟩
theorem i2{P S:List bp}{cur:bp}(hl:x.ft.length+x.ah.length<=1048576)(h:fw p P S cur sp x):BG xs p t q Q R a b c wh sp f (mN p P S cur sp) okn x:=
 ek (λ e=>⟨hl,⟨x.pl,x.ft,x.ah,x.ft++x.ah⟩,iq ⟨x.tx,h,by rw[if_pos (of_decide_eq_true e)]⟩⟩) λ e=>⟨x,iq ⟨x.tx,h,by rw[if_neg (of_decide_eq_false e)]⟩⟩
theorem n2(ha:aM a)(hb:aM b)(h:okn ⟨x, [da a,da b],wh⟩):BI xs p t q Q R a b c wh sp f ok okn x:=by
 refine cE ha.len λ la ma na=> ?_;refine cE hb.len λ lb mb nb=> ?_;refine⟨by decide,by lia,⟨[],rQ rfl⟩,λ i y hi hy=>⟨rfl,rfl,mQ ha,_,rQ ?_⟩,λ ya ea=>⟨rfl, ?_,by lia,⟨[],fD rfl⟩,λ i y hi hy=>⟨rfl,rfl,mQ hb,_,fD ?_⟩,λ yb eb=>⟨rfl, ?_,by decide,⟨x, [ya.flatten,yb.flatten],wh⟩,fD ?_⟩⟩⟩
 all_goals skip
 ·rw[hy];rfl
 ·rw[ea,iD];exact mR ha
 ·rw[hy];rfl
 ·rw[eb,iD];exact mR hb
 ·rw[iD]at ea;rw[iD]at eb;subst ea;subst eb;exact h
theorem s3(hp:dA p)(ht:bJ 20 t)(ha:aM a)(hb:aM b)(hc:aM c):BK xs p t q Q R a b c wh sp f ok okn x:=by
 refine cE ha.len λ la ma na=> ?_;refine cE hb.len λ lb mb nb=> ?_;refine cE hc.len λ lc mc nc=> ?_;refine⟨by decide,_,_,_,rfl,⟨ht.1,hp.2.2.2.2.2.2.1,hp.2.2.2.2.2.2.2,ht.2.1,by have:=ht.2.2;lia⟩,by decide,by decide, ?_, ?_, ?_⟩
 ·exact λ x0 z0 a0 b0 c0=>⟨by decide,by decide,by decide,by lia,_,_,_,rfl,⟨a0,hp.2.2.2.2.2.2.1,hp.2.2.2.2.2.2.2,b0,by have:=ht.2.2;lia⟩,by lia,by lia,mO (by lia) λ d e f x1 z1 a1 b1 c1=>
   ⟨((x1,z1),0,d),gX ⟨⟨a1,b1,by have:=ht.2.2;show z1<=22;lia⟩,by show (0:Int)<=0;decide,by show (0:Int)<(3:Nat);decide,e,by show d<=(a.length:Nat);lia⟩⟩⟩
 ·exact λ x0 z0 a0 b0 c0=>⟨by decide,by decide,by decide,by lia,_,_,_,rfl,⟨a0,hp.2.2.2.2.2.2.1,hp.2.2.2.2.2.2.2,b0,by have:=ht.2.2;lia⟩,by lia,by lia,mO (by lia) λ d e f x1 z1 a1 b1 c1=>
   ⟨((x1,z1),1,d),gX ⟨⟨a1,b1,by have:=ht.2.2;show z1<=22;lia⟩,by show (0:Int)<=1;decide,by show (1:Int)<(3:Nat);decide,e,by show d<=(b.length:Nat);lia⟩⟩⟩
 ·exact λ x0 z0 a0 b0 c0=>⟨by decide,by decide,by decide,by lia,_,_,_,rfl,⟨a0,hp.2.2.2.2.2.2.1,hp.2.2.2.2.2.2.2,b0,by have:=ht.2.2;lia⟩,by lia,by lia,mO (by lia) λ d e f x1 z1 a1 b1 c1=>
   ⟨((x1,z1),2,d),gX ⟨⟨a1,b1,by have:=ht.2.2;show z1<=22;lia⟩,by show (0:Int)<=2;decide,by show (2:Int)<(3:Nat);decide,e,by show d<=(c.length:Nat);lia⟩⟩⟩
theorem f3(hp:dA p):BL xs p t q Q R a b c wh sp f ok okn x:=by
 have w0:=hp.1;have k0:=hp.2.2.1;have k1:=hp.2.2.2.1;refine ek (λ h=>⟨k0,by lia,ek (λ h1=> ?_) λ h1=>ek (λ h2=> ?_) λ h2=> ?_⟩) λ h=> ?_
 ·have:=of_decide_eq_true h
  have:=of_decide_eq_true h1;exact⟨_,gX ⟨λ _=>⟨_,rfl, .inl (by lia)⟩,λ _=>by lia,λ _=>by lia⟩⟩
 ·have:=of_decide_eq_true h2
  exact⟨_,gX ⟨λ _=>by lia,λ _=>rfl,λ _=>by lia⟩⟩
 ·have:=of_decide_eq_false h1
  have:=of_decide_eq_false h2;exact⟨_,gX ⟨λ _=>by contradiction,λ _=>by contradiction,λ _=>rfl⟩⟩
 ·have h:=of_decide_eq_false h
  have hg:ay [(127:Int),(200:Int)] (bH (p.cd - (32:Int)) 2) (0:Int)=127∨ay [(127:Int),(200:Int)] (bH (p.cd - (32:Int)) 2) (0:Int)=200:=by
   have:p.cd - 32=0∨p.cd - 32=1:=by lia
   rcases this with e | e
   ·rw[e];exact .inl rfl
   ·rw[e];exact .inr rfl
  refine⟨by lia,by lia,by decide,by lia,by lia,ek (λ h1=> ?_) λ h1=>ek (λ h2=> ?_) λ h2=> ?_⟩
  ·have:=of_decide_eq_true h1
   exact⟨_,gX ⟨λ _=>⟨_,rfl, .inr (by lia)⟩,λ _=>by lia,λ _=>by lia⟩⟩
  ·have:=of_decide_eq_true h2
   exact⟨_,gX ⟨λ _=>by lia,λ _=>rfl,λ _=>by lia⟩⟩
  ·have:=of_decide_eq_false h1
   have:=of_decide_eq_false h2;exact⟨_,gX ⟨λ _=>by contradiction,λ _=>by contradiction,λ _=>rfl⟩⟩
theorem QA(hp:dA p)(hf:jk p.wy f)(ha:aM a)(hb:aM b)(hc:aM c)(h0:0<=sp):uy xs p t q Q R a b c wh sp f (fw p [] [b,c] a sp) okn x:=by
 refine cE ha.len λ la ma na=> ?_;refine cE hb.len λ lb mb nb=> ?_;refine cE hc.len λ lc mc nc=> ?_;obtain⟨lt,mt,nt⟩:(af W7 (W6 sp) a).length<=4/\(af W7 (W6 sp) a).flatten.length<=8/\bq (af W7 (W6 sp) a)<=8:= (ha.take (n:=sp.toNat)).len;obtain⟨ld,md,nd⟩:(af (W6 sp) W7 a).length<=4/\(af (W6 sp) W7 a).flatten.length<=8/\bq (af (W6 sp) W7 a)<=8:=by rw[iC h0];exact ha.drop.len
 have lw:=lH hp;have lf:=mP hf hp;have fin:∀k:Int,k= (if p.wy=1 then 1 else 0)->fw p [] [b,c] a sp ⟨(↑(aa (ew p.wd []++(af W7 (W6 sp) a).flatten)):Int)+k,ew p.wd [],(af W7 (W6 sp) a).flatten,ew p.wd []++(af W7 (W6 sp) a).flatten++f++((af (W6 sp) W7 a).flatten++ [34])++kb [b,c]⟩:=λ k hk=>⟨rfl,rfl,by rw[hk];rfl,f,hf,by rw[iC h0]⟩
 unfold uy
 repeat' apply ik
 all_goals first
  | decide
  | lia
  | exact trivial
  | exact .inl h0
  | (simp only[f6,o5,bD,df,fM,bq];lia)
  | skip
 exact ek (λ h=>⟨_,rfl,rfl,rfl,rfl,rfl,rfl,rfl,rfl,rfl,rfl,rfl,rfl,rfl,rfl,rfl,rfl,rfl,fin 1 (by rw[if_pos (of_decide_eq_true h)])⟩) λ h=>⟨_,rfl,rfl,rfl,rfl,rfl,rfl,rfl,rfl,rfl,rfl,rfl,rfl,rfl,rfl,rfl,rfl,rfl,fin 0 (by rw[if_neg (of_decide_eq_false h)])⟩
theorem QB(hp:dA p)(hf:jk p.wy f)(ha:aM a)(hb:aM b)(hc:aM c)(h0:0<=sp):uz xs p t q Q R a b c wh sp f (fw p [a] [c] b sp) okn x:=by
 refine cE ha.len λ la ma na=> ?_;refine cE hb.len λ lb mb nb=> ?_;refine cE hc.len λ lc mc nc=> ?_;obtain⟨lt,mt,nt⟩:(af W7 (W6 sp) b).length<=4/\(af W7 (W6 sp) b).flatten.length<=8/\bq (af W7 (W6 sp) b)<=8:= (hb.take (n:=sp.toNat)).len;obtain⟨ld,md,nd⟩:(af (W6 sp) W7 b).length<=4/\(af (W6 sp) W7 b).flatten.length<=8/\bq (af (W6 sp) W7 b)<=8:=by rw[iC h0];exact hb.drop.len
 have lw:=lH hp;have lf:=mP hf hp;have fin:∀k:Int,k= (if p.wy=1 then 1 else 0)->fw p [a] [c] b sp ⟨(↑(aa (ew p.wd [a]++(af W7 (W6 sp) b).flatten)):Int)+k,ew p.wd [a],(af W7 (W6 sp) b).flatten,ew p.wd [a]++(af W7 (W6 sp) b).flatten++f++((af (W6 sp) W7 b).flatten++ [34])++kb [c]⟩:=λ k hk=>⟨rfl,rfl,by rw[hk];rfl,f,hf,by rw[iC h0]⟩
 unfold uz
 repeat' apply ik
 all_goals first
  | decide
  | lia
  | exact trivial
  | exact .inl h0
  | (simp only[f6,o5,bD,df,fM,bq];lia)
  | skip
 exact ek (λ h=>⟨_,rfl,rfl,rfl,rfl,rfl,rfl,rfl,rfl,rfl,rfl,rfl,rfl,rfl,rfl,rfl,rfl,rfl,fin 1 (by rw[if_pos (of_decide_eq_true h)])⟩) λ h=>⟨_,rfl,rfl,rfl,rfl,rfl,rfl,rfl,rfl,rfl,rfl,rfl,rfl,rfl,rfl,rfl,rfl,rfl,fin 0 (by rw[if_neg (of_decide_eq_false h)])⟩
theorem QC(hp:dA p)(hf:jk p.wy f)(ha:aM a)(hb:aM b)(hc:aM c)(h0:0<=sp):uA xs p t q Q R a b c wh sp f (fw p [a,b] [] c sp) okn x:=by
 refine cE ha.len λ la ma na=> ?_;refine cE hb.len λ lb mb nb=> ?_;refine cE hc.len λ lc mc nc=> ?_;obtain⟨lt,mt,nt⟩:(af W7 (W6 sp) c).length<=4/\(af W7 (W6 sp) c).flatten.length<=8/\bq (af W7 (W6 sp) c)<=8:= (hc.take (n:=sp.toNat)).len;obtain⟨ld,md,nd⟩:(af (W6 sp) W7 c).length<=4/\(af (W6 sp) W7 c).flatten.length<=8/\bq (af (W6 sp) W7 c)<=8:=by rw[iC h0];exact hc.drop.len
 have lw:=lH hp;have lf:=mP hf hp;have fin:∀k:Int,k= (if p.wy=1 then 1 else 0)->fw p [a,b] [] c sp ⟨(↑(aa (ew p.wd [a,b]++(af W7 (W6 sp) c).flatten)):Int)+k,ew p.wd [a,b],(af W7 (W6 sp) c).flatten,ew p.wd [a,b]++(af W7 (W6 sp) c).flatten++f++((af (W6 sp) W7 c).flatten++ [34])++kb []⟩:=λ k hk=>⟨rfl,rfl,by rw[hk];rfl,f,hf,by rw[iC h0]⟩
 unfold uA
 repeat' apply ik
 all_goals first
  | decide
  | lia
  | exact trivial
  | exact .inl h0
  | (simp only[f6,o5,bD,df,fM,bq];lia)
  | skip
 exact ek (λ h=>⟨_,rfl,rfl,rfl,rfl,rfl,rfl,rfl,rfl,rfl,rfl,rfl,rfl,rfl,rfl,rfl,rfl,rfl,fin 1 (by rw[if_pos (of_decide_eq_true h)])⟩) λ h=>⟨_,rfl,rfl,rfl,rfl,rfl,rfl,rfl,rfl,rfl,rfl,rfl,rfl,rfl,rfl,rfl,rfl,rfl,fin 0 (by rw[if_neg (of_decide_eq_false h)])⟩
theorem i3{P S:List bp}{cur:bp}(hl:x.ft.length+x.ah.length<=1048576)(h:fw p P S cur sp x):BM xs p t q Q R a b c wh sp f (mN p P S cur sp) okn x:=
 ek (λ e=>⟨hl,⟨x.pl,x.ft,x.ah,x.ft++x.ah⟩,gX ⟨x.tx,h,by rw[if_pos (of_decide_eq_true e)]⟩⟩) λ e=>⟨x,gX ⟨x.tx,h,by rw[if_neg (of_decide_eq_false e)]⟩⟩
theorem n3(ha:aM a)(hb:aM b)(hc:aM c)(h:okn ⟨x, [da a,da b,da c],wh⟩):BN xs p t q Q R a b c wh sp f ok okn x:=by
 refine cE ha.len λ la ma na=> ?_;refine cE hb.len λ lb mb nb=> ?_;refine cE hc.len λ lc mc nc=> ?_;refine⟨by decide,by lia,⟨[],fD rfl⟩,λ i y hi hy=>⟨rfl,rfl,mQ ha,_,fD ?_⟩,λ ya ea=>⟨rfl, ?_,by lia,⟨[],iq rfl⟩,λ i y hi hy=>⟨rfl,rfl,mQ hb,_,iq ?_⟩,λ yb eb=>⟨rfl, ?_,by lia,⟨[],gX rfl⟩,λ i y hi hy=>⟨rfl,rfl,mQ hc,_,gX ?_⟩,λ yc ec=>⟨rfl, ?_,by decide,⟨x, [ya.flatten,yb.flatten,yc.flatten],wh⟩,fD ?_⟩⟩⟩⟩
 all_goals skip
 ·rw[hy];rfl
 ·rw[ea,iD];exact mR ha
 ·rw[hy];rfl
 ·rw[eb,iD];exact mR hb
 ·rw[hy];rfl
 ·rw[ec,iD];exact mR hc
 ·rw[iD]at ea;rw[iD]at eb;rw[iD]at ec;subst ea;subst eb;subst ec;exact h
end
end Mine.Lake
open PySem.Calls
namespace Mine.Lake
def qM(oc ft:Ln)(p:Int):Prop:= (bb oc ft.length oc.length).ok=W9/\(bb oc ft.length oc.length).spot=p
def ke(v:Ln)(p:Int):Prop:=gL v (λ _ _=>False) (λ _ _=>False) (λ q=>q=p)
def qN(s:Ln)(p:Int):Prop:=eE s 0 (λ _ _ _ _=>False) (λ _ _ _ _=>False) (λ _ _ _ _=>False) (λ _ _ _ _=>False) (λ q=>q=p) (λ _ q=>q=p) (λ _=>False) (λ _ _=>False)
def qO(s:Ln)(p:Int):Prop:=eE s 0 (λ _ _ _ _=>False) (λ _ _ _ _=>False) (λ _ _ _ _=>False) (λ _ _ _ _=>False) (λ _=>False) (λ _ _=>False) (λ q=>q=p) (λ _ q=>q=p)
def mS(oc ft nm:Ln):Prop:= (bb oc ft.length oc.length).ok=W8/\(bb oc ft.length oc.length).acc=nm
def lI(v:Ln)(o:Option (Int×Int))(ys:Ll):Prop:=gL v (λ _ zs=>o=W7/\zs=ys) (λ _ zs=>o=W6 (1,2)/\zs=ys) (λ _=>False)
def mT(s:Ln)(o:Option (Int×Int))(ys:Ll):Prop:=eE s 0 (λ _ _ _ zs=>o=W7/\zs=ys) (λ _ _ _ zs=>o=W6 (1,2)/\zs=ys) (λ _ _ _ _=>False) (λ _ _ _ _=>False) (λ _=>False) (λ _ _=>False) (λ _=>False) (λ _ _=>False)
def mU(s:Ln)(o:Option (Int×Int))(ys:Ll):Prop:=eE s 0 (λ _ _ _ _=>False) (λ _ _ _ _=>False) (λ _ _ _ zs=>o=W7/\zs=ys) (λ _ _ _ zs=>o=W6 (1,2)/\zs=ys) (λ _=>False) (λ _ _=>False) (λ _=>False) (λ _ _=>False)
abbrev lJ(n:Nat)(oc:Ln):Prop:=oc.length<=n/\∀x∈oc,x<256
def BP(Q:Tq)(os:La):Nat->Prop
 | 1=>∃oc ft p,os=jA oc ft/\lJ 500000 oc/\ft.length<=500000/\qM oc ft p/\Q (.ob 5) (jA oc ft++ [.tup [.non, .num p]])
 | 2=>∃v p,os=jj v/\v.length<=500000/\ke v p/\Q (.ob 4) (jj v++ [.tup [.non, .num p]])
 | 3=>∃oc ld p,os=fg [] oc ld/\lJ 400000 oc/\lJ 1000 ld/\cond (aR (af W7 (W6 1) ld) [40]) (qN (ld++oc++ [41]) p/\Q (.ob 6) (ji oc ld++ [.tup [.non, .num p]])) (qO (ld++oc++ []) p/\Q (.ob 5) (fg [] oc ld++ [.tup [.non, .num p]]))
 | _=>False
def BQ(o:Option (Int×Int))(Q:Tq)(os:La):Nat->Prop
 | 1=>∃oc ft nm,os=jA oc ft/\lJ 500000 oc/\ft.length<=500000/\mS oc ft nm/\Q (.ob 5) (jA oc ft++ [.tup [.st nm, .num (-1)]])
 | 2=>∃v ys,os=jj v/\v.length<=500000/\lI v o ys/\∀w,Q (.ob 4) (jj v++(.tup [.ob 5, .num (-1)]::d_ 5 o w ys))
 | 3=>∃oc ld ys,os=fg [] oc ld/\lJ 400000 oc/\lJ 1000 ld/\cond (aR (af W7 (W6 1) ld) [40])
   (mT (ld++oc++ [41]) o ys/\∀y b w,Q (.ob 6) (ji oc ld++(.tup [.ob 7, .num (-1)]:: .lst [.ob 8, .ob 9]:: .tup [.st y]:: .tup [.st eT, .ob 10, .bo b]::d_ 10 o w ys)))
   (mU (ld++oc++ []) o ys/\∀b w,Q (.ob 5) (fg [] oc ld++(.tup [.ob 6, .num (-1)]:: .lst [.ob 7]:: .tup [.st eT, .ob 8, .bo b]::d_ 8 o w ys)))
 | _=>False
noncomputable def BR:aH:=⟨qF,λ as os Q R=>cz as λ v r=>bM r (fb 1 v (BP Q os (uo os))),15, [585],W8⟩
noncomputable def uD(o:Option (Int×Int)):aH:=⟨qF,λ as os Q R=>cz as λ v r=>bM r (fb 1 v (BQ o Q os (uo os))),15, [585],W8⟩
noncomputable abbrev eQ:ab:= "law.<locals>."
noncomputable abbrev uE:fE:=⟨λ _=>W7,λ _=> .vs,λ _ _=>W7,λ _ _=>W7,λ k=>(match aO k 475024 with
 | true=>W6 1
 | false=>match aO k 476025 with
  | true=>W6 2
  | false=>match aO k 477023 with
   | true=>W6 3
   | false=>W7),λ _=>0⟩
end Mine.Lake
open PySem.Calls
namespace Mine.Lake
section
abbrev QD(xs:Lx)(Q:Tq)(x:bu)(Ts Uj:Int)(ld:Ln)(Ul:Int):Prop:= (-2:Int)<=1/\(1:Int)<2/\2<=1048576/\(-2:Int)<=1/\(1:Int)<2/\2<=1048576/\(-2:Int)<=1/\(1:Int)<2/\2<=1048576/\aa ld<=1048576/\W9=W9/\Q (Xa (W_ (Ts=x.b.pl) && (W_ (Uj=x.b.pl) && (W_ (Ul= (aa ld:Int)+x.b.pl+1) && W8)))) [Xq [(425,29,3)],Xq [(475,24,4),(476,25,5),(477,23,6)],Xr xs.fst xs.snd,Xo "read_items.<locals>.<lambda>",cW,cW,cW]
abbrev BS(xs:Lx)(Q:Tq)(x:bu)(Ts Uj:Int)(ld:Ln)(Ul:Int):Prop:= (-2:Int)<=1/\(1:Int)<2/\2<=1048576/\(-2:Int)<=1/\(1:Int)<2/\2<=1048576/\(-2:Int)<=1/\(1:Int)<2/\2<=1048576/\aa ld<=1048576/\W9=W9/\Q (Xa (W_ (Ts=x.b.pl) && (W_ (Uj=x.b.pl) && (W_ (Ul= (aa ld:Int)+x.b.pl+0) && W8)))) [Xq [(425,29,3)],Xq [(475,24,4),(476,25,5),(477,23,6)],Xr xs.fst xs.snd,Xo "read_items.<locals>.<lambda>",cW,cW,cW]
abbrev QE(xs:Lx)(p:LP)(Q:Tq)(x:bu)(Ts Uj:Int)(SV ld:Ln)(Ul:Int):Prop:=qN (ld++SV++ [41]) Ul/\bif W_ (p.wy<3) then bif W_ (p.wy= 2) then bB W7 (W6 (1:Int)) (aa ld)/\bif aR (af W7 (W6 (1:Int)) ld) [40] then QD xs Q x Ts Uj ld Ul else BS xs Q x Ts Uj ld Ul else BS xs Q x Ts Uj ld Ul else -(aa x.nm:Int)<=x.wh/\x.wh<(aa x.nm:Int)/\aa x.nm<=1048576/\W9=W9/\False
abbrev QF(xs:Lx)(Q:Tq)(x:bu)(Ts Uj:Int)(ld:Ln)(Ul:Int):Prop:= (-2:Int)<=1/\(1:Int)<2/\2<=1048576/\(-2:Int)<=1/\(1:Int)<2/\2<=1048576/\(-2:Int)<=1/\(1:Int)<2/\2<=1048576/\aa ld<=1048576/\W9=W9/\Q (Xa (W_ (Ts=x.b.pl) && (W_ (Uj=x.b.pl) && (W_ (Ul= (aa ld:Int)+x.b.pl+1) && W8)))) [Xq [],Xq [(475,24,3),(476,25,4),(477,23,5)],Xr xs.fst xs.snd,cW,cW,cW]
abbrev BU(xs:Lx)(Q:Tq)(x:bu)(Ts Uj:Int)(ld:Ln)(Ul:Int):Prop:= (-2:Int)<=1/\(1:Int)<2/\2<=1048576/\(-2:Int)<=1/\(1:Int)<2/\2<=1048576/\(-2:Int)<=1/\(1:Int)<2/\2<=1048576/\aa ld<=1048576/\W9=W9/\Q (Xa (W_ (Ts=x.b.pl) && (W_ (Uj=x.b.pl) && (W_ (Ul= (aa ld:Int)+x.b.pl+0) && W8)))) [Xq [],Xq [(475,24,3),(476,25,4),(477,23,5)],Xr xs.fst xs.snd,cW,cW,cW]
abbrev QG(xs:Lx)(p:LP)(Q:Tq)(x:bu)(Ts Uj:Int)(SV ld:Ln)(Ul:Int):Prop:=qO (ld++SV++ []) Ul/\bif W_ (p.wy<3) then bif W_ (p.wy= 2) then bB W7 (W6 (1:Int)) (aa ld)/\bif aR (af W7 (W6 (1:Int)) ld) [40] then QF xs Q x Ts Uj ld Ul else BU xs Q x Ts Uj ld Ul else BU xs Q x Ts Uj ld Ul else -(aa x.nm:Int)<=x.wh/\x.wh<(aa x.nm:Int)/\aa x.nm<=1048576/\W9=W9/\False
abbrev QH(xs:Lx)(p:LP)(Q:Tq)(x:bu)(oc:Ln)(Ts Uj:Int)(SV ld:Ln)(Ul:Int):Prop:= [Xq [],Xp 3 2 [("octets",3),("lead",4)],cW,Xl (Xe oc),Xl (Xe p.4)]= [Xq [],Xp 3 2 [("octets",3),("lead",4)],cW,Xl (Xe SV),Xl (Xe ld)]/\(aa SV<=400000/\∀(S3:Nat),S3∈SV->S3<256)/\(aa ld<=1000/\∀(S3:Nat),S3∈ld->S3<256)/\bif aR (af W7 (W6 (1:Int)) ld) [40] then QE xs p Q x Ts Uj SV ld Ul else QG xs p Q x Ts Uj SV ld Ul
abbrev QI(xs:Lx)(p:LP)(Q:Tq)(x:bu)(oc:Ln)(Ts:Int)(v:Ln)(Uj:Int):Prop:= [Xq [],Xp 2 2 [("text",3)],cW,Xl (Xd x.b.tx)]= [Xq [],Xp 2 2 [("text",3)],cW,Xl (Xd v)]/\aa v<=500000/\ke v Uj/\bG 3=bG 3/\∃(SV:Ln),∃(ld:Ln),∃(Ul:Int),QH xs p Q x oc Ts Uj SV ld Ul
abbrev QJ(xs:Lx)(p:LP)(Q:Tq)(x:bu)(oc ft:Ln)(Ts:Int):Prop:= [Xq [],Xp 1 2 [("octets",3),("front",4)],cW,Xl (Xe x.b.tx),Xl (Xd x.b.ft)]= [Xq [],Xp 1 2 [("octets",3),("front",4)],cW,Xl (Xe oc),Xl (Xd ft)]/\(aa oc<=500000/\∀(S3:Nat),S3∈oc->S3<256)/\aa ft<=500000/\qM oc ft Ts/\bG 2=bG 2/\∃(v:Ln),∃(Uj:Int),QI xs p Q x oc Ts v Uj
def BV(xs:Lx)(p:LP)(t:Int×Int)(q:ab)(Q:Tq)(R:Tr)(x:bu):Prop:=aa x.b.tx<=500000/\(∀(c:Nat),c∈x.b.tx->c<256)/\bG 1=bG 1/\∃(oc:Ln),∃(ft:Ln),∃(Ts:Int),QJ xs p Q x oc ft Ts
theorem QK(h:BV xs p t q Q R x):aL (aN [(608,mI),(615,BR)]) (cR eQ uE) 60 (cG 15 22) (oK xs p t x) (bg 3 Q) (dN R):=kq h
abbrev QM(xs:Lx)(Q:Tq)(x:bu)(ld:Ln):Prop:= (-2:Int)<=1/\(1:Int)<2/\2<=1048576/\(-2:Int)<=1/\(1:Int)<2/\2<=1048576/\(-2:Int)<=1/\(1:Int)<2/\2<=1048576/\aa ld<=1048576/\W9=W9/\Q (Xa (W_ ((-1)=x.b.pl) && (W_ ((-1)=x.b.pl) && (W_ ((-1:Int)= (aa ld:Int)+x.b.pl+1) && W8)))) [Xq [(425,29,3)],Xq [(475,24,4),(476,25,5),(477,23,6)],Xr xs.fst xs.snd,Xo "read_items.<locals>.<lambda>",cW,cW,cW]
abbrev BW(xs:Lx)(Q:Tq)(x:bu)(ld:Ln):Prop:= (-2:Int)<=1/\(1:Int)<2/\2<=1048576/\(-2:Int)<=1/\(1:Int)<2/\2<=1048576/\(-2:Int)<=1/\(1:Int)<2/\2<=1048576/\aa ld<=1048576/\W9=W9/\Q (Xa (W_ ((-1)=x.b.pl) && (W_ ((-1)=x.b.pl) && (W_ ((-1:Int)= (aa ld:Int)+x.b.pl+0) && W8)))) [Xq [(425,29,3)],Xq [(475,24,4),(476,25,5),(477,23,6)],Xr xs.fst xs.snd,Xo "read_items.<locals>.<lambda>",cW,cW,cW]
abbrev qP(xs:Lx)(Q:Tq):Prop:=Q (Xa W9) [Xq [(425,29,3)],Xq [(475,24,4),(476,25,5),(477,23,6)],Xr xs.fst xs.snd,Xo "read_items.<locals>.<lambda>",cW,cW,cW]
abbrev QN(xs:Lx)(Q:Tq):Prop:=Q (Xa W8) [Xq [(425,29,3)],Xq [(475,24,4),(476,25,5),(477,23,6)],Xr xs.fst xs.snd,Xo "read_items.<locals>.<lambda>",cW,cW,cW]
abbrev QO(xs:Lx)(Q:Tq)(ld:Ln):Prop:= (-2:Int)<=0/\(0:Int)<2/\2<=1048576/\2<=1048576/\bB W7 (W6 (1:Int)) (aa ld)/\bif aR (af W7 (W6 (1:Int)) ld) [40] then QN xs Q else qP xs Q
abbrev QR(xs:Lx)(Q:Tq)(x:bu)(ld:Ln)(S0:Ll):Prop:= (-2:Int)<=0/\(0:Int)<2/\2<=1048576/\(-2:Int)<=(-1)/\(-1:Int)<2/\2<=1048576/\(-3:Int)<=1/\(1:Int)<3/\3<=1048576/\W9=W9/\bif g0 S0 x.nm then QO xs Q ld else qP xs Q
abbrev QS(xs:Lx)(Q:Tq)(x:bu)(ys:Ll)(ld:Ln)(S0:Ll):Prop:= (-2:Int)<=0/\(0:Int)<2/\2<=1048576/\(-2:Int)<=0/\(0:Int)<2/\2<=1048576/\(-2:Int)<=0/\(0:Int)<2/\2<=1048576/\W9=W9/\bif g0 ys x.nm then QR xs Q x ld S0 else qP xs Q
abbrev QT(xs:Lx)(Q:Tq)(x:bu)(nm:Ln)(ys:Ll)(ld:Ln)(S0:Ll):Prop:= -(aa x.nm:Int)<=x.wh/\x.wh<(aa x.nm:Int)/\aa x.nm<=1048576/\W9=W9/\bif !(aR nm (ay x.nm (bH x.wh (aa x.nm)) []) && (W_ ((-1:Int)= (-1)) && W8)) then qP xs Q else QS xs Q x ys ld S0
abbrev QU(xs:Lx)(p:LP)(Q:Tq)(x:bu)(nm:Ln)(ys:Ll)(ld:Ln)(S0:Ll):Prop:=bif W_ (p.wy<3) then bif W_ (p.wy= 2) then bB W7 (W6 (1:Int)) (aa ld)/\bif aR (af W7 (W6 (1:Int)) ld) [40] then QM xs Q x ld else BW xs Q x ld else BW xs Q x ld else QT xs Q x nm ys ld S0
abbrev QV(xs:Lx)(Q:Tq)(x:bu)(ld:Ln):Prop:= (-2:Int)<=1/\(1:Int)<2/\2<=1048576/\(-2:Int)<=1/\(1:Int)<2/\2<=1048576/\(-2:Int)<=1/\(1:Int)<2/\2<=1048576/\aa ld<=1048576/\W9=W9/\Q (Xa (W_ ((-1)=x.b.pl) && (W_ ((-1)=x.b.pl) && (W_ ((-1:Int)= (aa ld:Int)+x.b.pl+1) && W8)))) [Xq [],Xq [(475,24,3),(476,25,4),(477,23,5)],Xr xs.fst xs.snd,cW,cW,cW]
abbrev BX(xs:Lx)(Q:Tq)(x:bu)(ld:Ln):Prop:= (-2:Int)<=1/\(1:Int)<2/\2<=1048576/\(-2:Int)<=1/\(1:Int)<2/\2<=1048576/\(-2:Int)<=1/\(1:Int)<2/\2<=1048576/\aa ld<=1048576/\W9=W9/\Q (Xa (W_ ((-1)=x.b.pl) && (W_ ((-1)=x.b.pl) && (W_ ((-1:Int)= (aa ld:Int)+x.b.pl+0) && W8)))) [Xq [],Xq [(475,24,3),(476,25,4),(477,23,5)],Xr xs.fst xs.snd,cW,cW,cW]
abbrev qQ(xs:Lx)(Q:Tq):Prop:=Q (Xa W9) [Xq [],Xq [(475,24,3),(476,25,4),(477,23,5)],Xr xs.fst xs.snd,cW,cW,cW]
abbrev QW(xs:Lx)(Q:Tq):Prop:=Q (Xa W8) [Xq [],Xq [(475,24,3),(476,25,4),(477,23,5)],Xr xs.fst xs.snd,cW,cW,cW]
abbrev QX(xs:Lx)(Q:Tq)(ld:Ln):Prop:= (-2:Int)<=0/\(0:Int)<2/\2<=1048576/\1<=1048576/\bB W7 (W6 (1:Int)) (aa ld)/\bif aR (af W7 (W6 (1:Int)) ld) [40] then qQ xs Q else QW xs Q
abbrev QY(xs:Lx)(Q:Tq)(x:bu)(ld:Ln)(S0:Ll):Prop:= (-2:Int)<=0/\(0:Int)<2/\2<=1048576/\(-1:Int)<=(-1)/\(-1:Int)<1/\1<=1048576/\(-3:Int)<=1/\(1:Int)<3/\3<=1048576/\W9=W9/\bif g0 S0 x.nm then QX xs Q ld else qQ xs Q
abbrev QZ(xs:Lx)(Q:Tq)(x:bu)(ys:Ll)(ld:Ln)(S0:Ll):Prop:= (-2:Int)<=0/\(0:Int)<2/\2<=1048576/\(-2:Int)<=0/\(0:Int)<2/\2<=1048576/\(-2:Int)<=0/\(0:Int)<2/\2<=1048576/\W9=W9/\bif g0 ys x.nm then QY xs Q x ld S0 else qQ xs Q
abbrev Q2(xs:Lx)(Q:Tq)(x:bu)(nm:Ln)(ys:Ll)(ld:Ln)(S0:Ll):Prop:= -(aa x.nm:Int)<=x.wh/\x.wh<(aa x.nm:Int)/\aa x.nm<=1048576/\W9=W9/\bif !(aR nm (ay x.nm (bH x.wh (aa x.nm)) []) && (W_ ((-1:Int)= (-1)) && W8)) then qQ xs Q else QZ xs Q x ys ld S0
abbrev Q3(xs:Lx)(p:LP)(Q:Tq)(x:bu)(nm:Ln)(ys:Ll)(ld:Ln)(S0:Ll):Prop:=bif W_ (p.wy<3) then bif W_ (p.wy= 2) then bB W7 (W6 (1:Int)) (aa ld)/\bif aR (af W7 (W6 (1:Int)) ld) [40] then QV xs Q x ld else BX xs Q x ld else BX xs Q x ld else Q2 xs Q x nm ys ld S0
abbrev Q4(xs:Lx)(p:LP)(Q:Tq)(x:bu)(oc nm:Ln)(ys:Ll)(SV ld:Ln)(S0:Ll):Prop:= [Xq [],Xp 3 2 [("octets",3),("lead",4)],cW,Xl (Xe oc),Xl (Xe p.4)]= [Xq [],Xp 3 2 [("octets",3),("lead",4)],cW,Xl (Xe SV),Xl (Xe ld)]/\(aa SV<=400000/\∀(S3:Nat),S3∈SV->S3<256)/\(aa ld<=1000/\∀(S3:Nat),S3∈ld->S3<256)/\bif aR (af W7 (W6 (1:Int)) ld) [40] then mT (ld++SV++ [41]) W7 S0/\∀(y:Ln) (b:Bool) (Up:Ln),QU xs p Q x nm ys ld S0 else mU (ld++SV++ []) W7 S0/\∀(b:Bool) (Up:Ln),Q3 xs p Q x nm ys ld S0
abbrev Q5(xs:Lx)(p:LP)(Q:Tq)(x:bu)(oc nm v:Ln)(ys:Ll):Prop:= [Xq [],Xp 2 2 [("text",3)],cW,Xl (Xd x.b.tx)]= [Xq [],Xp 2 2 [("text",3)],cW,Xl (Xd v)]/\aa v<=500000/\lI v W7 ys/\∀(w:Ln),bG 3=bG 3/\∃(SV:Ln),∃(ld:Ln),∃(S0:Ll),Q4 xs p Q x oc nm ys SV ld S0
abbrev Q6(xs:Lx)(p:LP)(Q:Tq)(x:bu)(oc ft nm:Ln):Prop:= [Xq [],Xp 1 2 [("octets",3),("front",4)],cW,Xl (Xe x.b.tx),Xl (Xd x.b.ft)]= [Xq [],Xp 1 2 [("octets",3),("front",4)],cW,Xl (Xe oc),Xl (Xd ft)]/\(aa oc<=500000/\∀(S3:Nat),S3∈oc->S3<256)/\aa ft<=500000/\mS oc ft nm/\bG 2=bG 2/\∃(v:Ln),∃(ys:Ll),Q5 xs p Q x oc nm v ys
def BY(xs:Lx)(p:LP)(t:Int×Int)(q:ab)(Q:Tq)(R:Tr)(x:bu):Prop:=aa x.b.tx<=500000/\(∀(c:Nat),c∈x.b.tx->c<256)/\bG 1=bG 1/\∃(oc:Ln),∃(ft:Ln),∃(nm:Ln),Q6 xs p Q x oc ft nm
theorem Q7(h:BY xs p t q Q R x):aL (aN [(608,mI),(615,uD W7)]) (cR eQ uE) 60 (cG 15 22) (oK xs p t x) (bg 3 Q) (dN R):=kq h
abbrev Q8(xs:Lx)(Q:Tq)(x:bu)(ld:Ln):Prop:= (-2:Int)<=1/\(1:Int)<2/\2<=1048576/\(-2:Int)<=1/\(1:Int)<2/\2<=1048576/\(-2:Int)<=1/\(1:Int)<2/\2<=1048576/\aa ld<=1048576/\W9=W9/\Q (Xa (W_ ((-1)=x.b.pl) && (W_ ((-1)=x.b.pl) && (W_ ((-1:Int)= (aa ld:Int)+x.b.pl+1) && W8)))) [Xq [(425,29,3)],Xq [(475,24,4),(476,25,5),(477,23,6)],Xr xs.fst xs.snd,Xo "read_items.<locals>.<lambda>",cW,cW,cW]
abbrev BZ(xs:Lx)(Q:Tq)(x:bu)(ld:Ln):Prop:= (-2:Int)<=1/\(1:Int)<2/\2<=1048576/\(-2:Int)<=1/\(1:Int)<2/\2<=1048576/\(-2:Int)<=1/\(1:Int)<2/\2<=1048576/\aa ld<=1048576/\W9=W9/\Q (Xa (W_ ((-1)=x.b.pl) && (W_ ((-1)=x.b.pl) && (W_ ((-1:Int)= (aa ld:Int)+x.b.pl+0) && W8)))) [Xq [(425,29,3)],Xq [(475,24,4),(476,25,5),(477,23,6)],Xr xs.fst xs.snd,Xo "read_items.<locals>.<lambda>",cW,cW,cW]
abbrev qR(xs:Lx)(Q:Tq):Prop:=Q (Xa W9) [Xq [(425,29,3)],Xq [(475,24,4),(476,25,5),(477,23,6)],Xr xs.fst xs.snd,Xo "read_items.<locals>.<lambda>",cW,cW,cW]
abbrev Q9(xs:Lx)(Q:Tq):Prop:=Q (Xa W8) [Xq [(425,29,3)],Xq [(475,24,4),(476,25,5),(477,23,6)],Xr xs.fst xs.snd,Xo "read_items.<locals>.<lambda>",cW,cW,cW]
abbrev Q_(xs:Lx)(Q:Tq)(ld:Ln):Prop:= (-2:Int)<=0/\(0:Int)<2/\2<=1048576/\2<=1048576/\bB W7 (W6 (1:Int)) (aa ld)/\bif aR (af W7 (W6 (1:Int)) ld) [40] then Q9 xs Q else qR xs Q
abbrev Ra(xs:Lx)(Q:Tq)(x:bu)(ld:Ln)(S0:Ll):Prop:= (-2:Int)<=0/\(0:Int)<2/\2<=1048576/\(-2:Int)<=(-1)/\(-1:Int)<2/\2<=1048576/\(-3:Int)<=1/\(1:Int)<3/\3<=1048576/\W9=W9/\bif g0 S0 x.nm then Q_ xs Q ld else qR xs Q
abbrev Rb(xs:Lx)(Q:Tq)(x:bu)(ys:Ll)(ld:Ln)(S0:Ll):Prop:= (-2:Int)<=0/\(0:Int)<2/\2<=1048576/\(-2:Int)<=0/\(0:Int)<2/\2<=1048576/\(-2:Int)<=0/\(0:Int)<2/\2<=1048576/\W9=W9/\bif g0 ys x.nm then Ra xs Q x ld S0 else qR xs Q
abbrev Rc(xs:Lx)(Q:Tq)(x:bu)(nm:Ln)(ys:Ll)(ld:Ln)(S0:Ll):Prop:= -(aa x.nm:Int)<=x.wh/\x.wh<(aa x.nm:Int)/\aa x.nm<=1048576/\W9=W9/\bif !(aR nm (ay x.nm (bH x.wh (aa x.nm)) []) && (W_ ((-1:Int)= (-1)) && W8)) then qR xs Q else Rb xs Q x ys ld S0
abbrev Rd(xs:Lx)(p:LP)(Q:Tq)(x:bu)(nm:Ln)(ys:Ll)(ld:Ln)(S0:Ll):Prop:=bif W_ (p.wy<3) then bif W_ (p.wy= 2) then bB W7 (W6 (1:Int)) (aa ld)/\bif aR (af W7 (W6 (1:Int)) ld) [40] then Q8 xs Q x ld else BZ xs Q x ld else BZ xs Q x ld else Rc xs Q x nm ys ld S0
abbrev Re(xs:Lx)(Q:Tq)(x:bu)(ld:Ln):Prop:= (-2:Int)<=1/\(1:Int)<2/\2<=1048576/\(-2:Int)<=1/\(1:Int)<2/\2<=1048576/\(-2:Int)<=1/\(1:Int)<2/\2<=1048576/\aa ld<=1048576/\W9=W9/\Q (Xa (W_ ((-1)=x.b.pl) && (W_ ((-1)=x.b.pl) && (W_ ((-1:Int)= (aa ld:Int)+x.b.pl+1) && W8)))) [Xq [],Xq [(475,24,3),(476,25,4),(477,23,5)],Xr xs.fst xs.snd,cW,cW,cW]
abbrev B4(xs:Lx)(Q:Tq)(x:bu)(ld:Ln):Prop:= (-2:Int)<=1/\(1:Int)<2/\2<=1048576/\(-2:Int)<=1/\(1:Int)<2/\2<=1048576/\(-2:Int)<=1/\(1:Int)<2/\2<=1048576/\aa ld<=1048576/\W9=W9/\Q (Xa (W_ ((-1)=x.b.pl) && (W_ ((-1)=x.b.pl) && (W_ ((-1:Int)= (aa ld:Int)+x.b.pl+0) && W8)))) [Xq [],Xq [(475,24,3),(476,25,4),(477,23,5)],Xr xs.fst xs.snd,cW,cW,cW]
abbrev qS(xs:Lx)(Q:Tq):Prop:=Q (Xa W9) [Xq [],Xq [(475,24,3),(476,25,4),(477,23,5)],Xr xs.fst xs.snd,cW,cW,cW]
abbrev Rf(xs:Lx)(Q:Tq):Prop:=Q (Xa W8) [Xq [],Xq [(475,24,3),(476,25,4),(477,23,5)],Xr xs.fst xs.snd,cW,cW,cW]
abbrev Rg(xs:Lx)(Q:Tq)(ld:Ln):Prop:= (-2:Int)<=0/\(0:Int)<2/\2<=1048576/\1<=1048576/\bB W7 (W6 (1:Int)) (aa ld)/\bif aR (af W7 (W6 (1:Int)) ld) [40] then qS xs Q else Rf xs Q
abbrev Rh(xs:Lx)(Q:Tq)(x:bu)(ld:Ln)(S0:Ll):Prop:= (-2:Int)<=0/\(0:Int)<2/\2<=1048576/\(-1:Int)<=(-1)/\(-1:Int)<1/\1<=1048576/\(-3:Int)<=1/\(1:Int)<3/\3<=1048576/\W9=W9/\bif g0 S0 x.nm then Rg xs Q ld else qS xs Q
abbrev Ri(xs:Lx)(Q:Tq)(x:bu)(ys:Ll)(ld:Ln)(S0:Ll):Prop:= (-2:Int)<=0/\(0:Int)<2/\2<=1048576/\(-2:Int)<=0/\(0:Int)<2/\2<=1048576/\(-2:Int)<=0/\(0:Int)<2/\2<=1048576/\W9=W9/\bif g0 ys x.nm then Rh xs Q x ld S0 else qS xs Q
abbrev Rj(xs:Lx)(Q:Tq)(x:bu)(nm:Ln)(ys:Ll)(ld:Ln)(S0:Ll):Prop:= -(aa x.nm:Int)<=x.wh/\x.wh<(aa x.nm:Int)/\aa x.nm<=1048576/\W9=W9/\bif !(aR nm (ay x.nm (bH x.wh (aa x.nm)) []) && (W_ ((-1:Int)= (-1)) && W8)) then qS xs Q else Ri xs Q x ys ld S0
abbrev Rk(xs:Lx)(p:LP)(Q:Tq)(x:bu)(nm:Ln)(ys:Ll)(ld:Ln)(S0:Ll):Prop:=bif W_ (p.wy<3) then bif W_ (p.wy= 2) then bB W7 (W6 (1:Int)) (aa ld)/\bif aR (af W7 (W6 (1:Int)) ld) [40] then Re xs Q x ld else B4 xs Q x ld else B4 xs Q x ld else Rj xs Q x nm ys ld S0
abbrev Rl(xs:Lx)(p:LP)(Q:Tq)(x:bu)(oc nm:Ln)(ys:Ll)(SV ld:Ln)(S0:Ll):Prop:= [Xq [],Xp 3 2 [("octets",3),("lead",4)],cW,Xl (Xe oc),Xl (Xe p.4)]= [Xq [],Xp 3 2 [("octets",3),("lead",4)],cW,Xl (Xe SV),Xl (Xe ld)]/\(aa SV<=400000/\∀(S3:Nat),S3∈SV->S3<256)/\(aa ld<=1000/\∀(S3:Nat),S3∈ld->S3<256)/\bif aR (af W7 (W6 (1:Int)) ld) [40] then mT (ld++SV++ [41]) (W6 ((1:Int),(2:Int))) S0/\∀(y:Ln) (b:Bool) (Up:Ln),Rd xs p Q x nm ys ld S0 else mU (ld++SV++ []) (W6 ((1:Int),(2:Int))) S0/\∀(b:Bool) (Up:Ln),Rk xs p Q x nm ys ld S0
abbrev Rm(xs:Lx)(p:LP)(Q:Tq)(x:bu)(oc nm v:Ln)(ys:Ll):Prop:= [Xq [],Xp 2 2 [("text",3)],cW,Xl (Xd x.b.tx)]= [Xq [],Xp 2 2 [("text",3)],cW,Xl (Xd v)]/\aa v<=500000/\lI v (W6 ((1:Int),(2:Int))) ys/\∀(w:Ln),bG 3=bG 3/\∃(SV:Ln),∃(ld:Ln),∃(S0:Ll),Rl xs p Q x oc nm ys SV ld S0
abbrev Rn(xs:Lx)(p:LP)(Q:Tq)(x:bu)(oc ft nm:Ln):Prop:= [Xq [],Xp 1 2 [("octets",3),("front",4)],cW,Xl (Xe x.b.tx),Xl (Xd x.b.ft)]= [Xq [],Xp 1 2 [("octets",3),("front",4)],cW,Xl (Xe oc),Xl (Xd ft)]/\(aa oc<=500000/\∀(S3:Nat),S3∈oc->S3<256)/\aa ft<=500000/\mS oc ft nm/\bG 2=bG 2/\∃(v:Ln),∃(ys:Ll),Rm xs p Q x oc nm v ys
def B5(xs:Lx)(p:LP)(t:Int×Int)(q:ab)(Q:Tq)(R:Tr)(x:bu):Prop:=aa x.b.tx<=500000/\(∀(c:Nat),c∈x.b.tx->c<256)/\bG 1=bG 1/\∃(oc:Ln),∃(ft:Ln),∃(nm:Ln),Rn xs p Q x oc ft nm
theorem Ro(h:B5 xs p t q Q R x):aL (aN [(608,mI),(615,uD (W6 (1,2)))]) (cR eQ uE) 60 (cG 15 22) (oK xs p t x) (bg 3 Q) (dN R):=kq h
end
section
variable{w:aQ}{mg mb:Tm}{xs:Lx}{p:LP}{t:Int×Int}{q:ab}{Q:Tq}{R:Tr}{x:bu}{o:Option (Int×Int)}{os:La}
theorem qT{a b c:Ln}{m n k:Nat}(h1:a.length<=m)(h2:b.length<=n)(h3:c.length<=k):(a++b++c).length<=m+n+k:=by
 rw[bD,bD];lia
theorem Rp{n:Nat}(h:BP Q os n):qG Q os n:=by
 cases n with
 | zero=>exact h.elim
 | succ n=>cases n with
  | zero=>
   obtain⟨oc,ft,p,e,h1,h2,h3,h4⟩:=h;exact⟨oc,ft,e,h1.1,h2,h1.2,cn h3.1 (by rw[h3.2];exact h4)⟩
  | succ n=>cases n with
   | zero=>
    obtain⟨v,p,e,h1,h2,h3⟩:=h;exact⟨v,e,h1,gL.mono h2 (λ _ _ h=>h.elim) (λ _ _ h=>h.elim) λ s hs=>hs ▸ h3⟩
   | succ n=>cases n with
    | zero=>
     obtain⟨oc,ld,p,e,h1,h2,h3⟩:=h;refine⟨oc,ld,e,h1.1,h2.1,h1.2,h2.2, ?_⟩;cases hb:aR (af W7 (W6 1) ld) [40] with
     | true=>
      rw[hb]at h3;exact⟨fk (qT (k:=1) h2.1 h1.1 (ba _)) (by decide),eE.mono h3.1 (λ _ _ _ _ h=>h.elim) (λ _ _ _ _ h=>h.elim) (λ _ _ _ _ h=>h.elim) (λ _ _ _ _ h=>h.elim) (λ s hs=>hs ▸ h3.2) (λ _ s hs=>hs ▸ h3.2) (λ _ h=>h.elim) λ _ _ h=>h.elim⟩
     | false=>
      rw[hb]at h3;exact⟨fk (qT (k:=0) h2.1 h1.1 (ba _)) (by decide),eE.mono h3.1 (λ _ _ _ _ h=>h.elim) (λ _ _ _ _ h=>h.elim) (λ _ _ _ _ h=>h.elim) (λ _ _ _ _ h=>h.elim) (λ _ h=>h.elim) (λ _ _ h=>h.elim) (λ s hs=>hs ▸ h3.2) λ _ s hs=>hs ▸ h3.2⟩
    | succ n=>exact h.elim
theorem Rq{n:Nat}(h:BQ o Q os n):qG Q os n:=by
 cases n with
 | zero=>exact h.elim
 | succ n=>cases n with
  | zero=>
   obtain⟨oc,ft,nm,e,h1,h2,h3,h4⟩:=h;exact⟨oc,ft,e,h1.1,h2,h1.2,bN h3.1 (by rw[h3.2];exact h4)⟩
  | succ n=>cases n with
   | zero=>
    obtain⟨v,ys,e,h1,h2,h3⟩:=h;exact⟨v,e,h1,gL.mono h2 (λ w _ h=>by obtain⟨rfl,rfl⟩:=h;exact h3 w) (λ w _ h=>by obtain⟨rfl,rfl⟩:=h;exact h3 w) λ _ h=>h.elim⟩
   | succ n=>cases n with
    | zero=>
     obtain⟨oc,ld,ys,e,h1,h2,h3⟩:=h;refine⟨oc,ld,e,h1.1,h2.1,h1.2,h2.2, ?_⟩;cases hb:aR (af W7 (W6 1) ld) [40] with
     | true=>
      rw[hb]at h3;exact⟨fk (qT (k:=1) h2.1 h1.1 (ba _)) (by decide),eE.mono h3.1 (λ _ wd w _ h=>by obtain⟨rfl,rfl⟩:=h;exact λ y=>h3.2 y (b_ wd) w) (λ _ wd w _ h=>by obtain⟨rfl,rfl⟩:=h;exact λ y=>h3.2 y (b_ wd) w) (λ _ _ _ _ h=>h.elim) (λ _ _ _ _ h=>h.elim) (λ _ h=>h.elim) (λ _ _ h=>h.elim) (λ _ h=>h.elim) λ _ _ h=>h.elim⟩
     | false=>
      rw[hb]at h3;exact⟨fk (qT (k:=0) h2.1 h1.1 (ba _)) (by decide),eE.mono h3.1 (λ _ _ _ _ h=>h.elim) (λ _ _ _ _ h=>h.elim) (λ _ wd w _ h=>by obtain⟨rfl,rfl⟩:=h;exact h3.2 (b_ wd) w) (λ _ wd w _ h=>by obtain⟨rfl,rfl⟩:=h;exact h3.2 (b_ wd) w) (λ _ h=>h.elim) (λ _ _ h=>h.elim) (λ _ h=>h.elim) λ _ _ h=>h.elim⟩
    | succ n=>exact h.elim
theorem Rr:bx w mg mb 615 BR:=Bq.weaken rfl rfl rfl λ as os Q R h=>by
 apply cJ h;intro v r h;apply cg h;intro h;apply fZ h;intro h;exact Rp h
theorem B6:bx w mg mb 615 (uD o):=Bq.weaken rfl rfl rfl λ as os Q R h=>by
 apply cJ h;intro v r h;apply cg h;intro h;apply fZ h;intro h;exact Rq h
theorem qU:∀x:List Nat,aR x x=W8:=by
 intro x;induction x with
 | nil=>
  exact rfl
 | cons a r ih=>
  show (aO a a && aR r r)=W8;rw[jl,ih];rfl
theorem kg:∀x:List (List Nat),g0 x x=W8:=by
 intro x;induction x with
 | nil=>
  exact rfl
 | cons a r ih=>
  show (aR a a && g0 r r)=W8;rw[qU,ih];rfl
theorem qV[Decidable A][Decidable B][Decidable C](a:A)(b:B)(c:C):(decide A && (decide B && (decide C && W8)))=W8:=by
 rw[decide_eq_true a,decide_eq_true b,decide_eq_true c];rfl
structure qW (p:LP) (x:bu):Prop where
 tl:x.b.tx.length<=400000
 tc:∀c∈x.b.tx,c<256
 fl:x.b.ft.length<=500000
 nl:x.nm.length<=1000
theorem uF(hp:dA p):lJ 1000 p.ld:=by
 have:∀l∈j',l.length<=1000/\∀x∈l,x<256:=by decide+kernel
 exact this _ hp.2.2.2.2.2.1
theorem eF(hp:dA p)(h3:p.wy<3)(s:qW p x)(g1:qM x.b.tx x.b.ft x.b.pl)(g2:ke x.b.tx x.b.pl)
  (g3:aR (af W7 (W6 (1:Int)) p.ld) [40]=W8->qN (p.ld++x.b.tx++ [41]) ((p.ld.length:Nat)+x.b.pl+(if p.wy=2 then 1 else 0)))
  (g4:aR (af W7 (W6 (1:Int)) p.ld) [40]=W9->qO (p.ld++x.b.tx++ []) ((p.ld.length:Nat)+x.b.pl+0)) (hQ:i4 xs Q):BV xs p t q Q R x:=by
 obtain⟨t1,t2,t3,t4⟩:=s;have hl:=uF hp;have hl1:=hl.1;have hQ':∀c a b r,c=W8->Q (.bo c) (.tab a:: .tab b:: .lstR xs.1 xs.2::r):=λ c a b r e=>e ▸ hQ a b r;have hc:bB W7 (W6 (1:Int)) (aa p.ld):=⟨trivial,by decide,by lia⟩
 have fin:∀{a:Prop},a->((-2:Int)<=(1:Int)/\(1:Int)<(2:Int)/\2<=1048576/\(-2:Int)<=(1:Int)/\(1:Int)<(2:Int)/\2<=1048576/\(-2:Int)<=(1:Int)/\(1:Int)<(2:Int)/\2<=1048576/\aa p.ld<=1048576/\W9=W9/\a):=λ ha=>⟨by decide,by decide,by decide,by decide,by decide,by decide,by decide,by decide,by decide,by lia,rfl,ha⟩
 refine cF (b:=aR (af W7 (W6 (1:Int)) p.ld) [40]) (λ hb=> ?bt) λ hb=> ?bf
 case bt=>
  refine⟨by lia,t2,rfl,_,_,_,rfl,⟨by lia,t2⟩,t3,g1,rfl,_,_,rfl,by lia,g2,rfl,_,_,(p.ld.length:Nat)+x.b.pl+(if p.wy=2 then 1 else 0),rfl,⟨t1,t2⟩,hl,bN hb ⟨g3 hb,bN (decide_eq_true h3) (ek (λ e=>⟨hc,bN hb (fin (hQ' _ _ _ _ (qV rfl rfl ?_)))⟩) λ e=>fin (hQ' _ _ _ _ (qV rfl rfl ?_)))⟩⟩
  ·rw[if_pos (of_decide_eq_true e)]
  ·rw[if_neg (of_decide_eq_false e)]
 case bf=>
  refine⟨by lia,t2,rfl,_,_,_,rfl,⟨by lia,t2⟩,t3,g1,rfl,_,_,rfl,by lia,g2,rfl,_,_,(p.ld.length:Nat)+x.b.pl+0,rfl,⟨t1,t2⟩,hl,cn hb ⟨g4 hb,bN (decide_eq_true h3) (ek (λ e=>⟨hc,cn hb (fin (hQ' _ _ _ _ (qV rfl rfl rfl)))⟩) λ e=>fin (hQ' _ _ _ _ (qV rfl rfl rfl)))⟩⟩
theorem Rt(hp:dA p)(h3: ¬ p.wy<3)(s:qW p x)(hw:0<=x.wh)(Wy:x.wh<(x.nm.length:Nat))(g1:mS x.b.tx x.b.ft (x.nm.getD (bH x.wh x.nm.length) []))(g2:lI x.b.tx W7 x.nm)
  (g3:aR (af W7 (W6 (1:Int)) p.ld) [40]=W8->mT (p.ld++x.b.tx++ [41]) W7 x.nm)
  (g4:aR (af W7 (W6 (1:Int)) p.ld) [40]=W9->mU (p.ld++x.b.tx++ []) W7 x.nm) (hQ:i4 xs Q):BY xs p t q Q R x:=by
 obtain⟨t1,t2,t3,t4⟩:=s;have hl:=uF hp;have hl1:=hl.1;have hc:bB W7 (W6 (1:Int)) (aa p.ld):=⟨trivial,by decide,by lia⟩
 have hn:(!(aR (ay x.nm (bH x.wh (aa x.nm)) []) (ay x.nm (bH x.wh (aa x.nm)) []) && (W_ ((-1:Int)= (-1:Int)) && W8)))=W9:=by rw[qU];rfl
 refine⟨by lia,t2,rfl,_,_,_,rfl,⟨by lia,t2⟩,t3,g1,rfl,_,_,rfl,by lia,g2,λ w=>⟨rfl,_,_,x.nm,rfl,⟨t1,t2⟩,hl, ?_⟩⟩
 cases hb:aR (af W7 (W6 (1:Int)) p.ld) [40] with
 | true=>exact⟨g3 hb,λ y b w=>cn (decide_eq_false h3) ⟨by lia,Wy,by lia,rfl,cn hn ⟨by decide,by decide,by decide,by decide,by decide,by decide,by decide,by decide,by decide,rfl,bN (kg _) ⟨by decide,by decide,by decide,by decide,by decide,by decide,by decide,by decide,by decide,rfl,bN (kg _) ⟨by decide,by decide,by decide,by decide,hc,bN hb (hQ _ _ _)⟩⟩⟩⟩⟩
 | false=>exact⟨g4 hb,λ b w=>cn (decide_eq_false h3) ⟨by lia,Wy,by lia,rfl,cn hn ⟨by decide,by decide,by decide,by decide,by decide,by decide,by decide,by decide,by decide,rfl,bN (kg _) ⟨by decide,by decide,by decide,by decide,by decide,by decide,by decide,by decide,by decide,rfl,bN (kg _) ⟨by decide,by decide,by decide,by decide,hc,cn hb (hQ _ _ _)⟩⟩⟩⟩⟩
theorem Ru(hp:dA p)(h3: ¬ p.wy<3)(s:qW p x)(hw:0<=x.wh)(Wy:x.wh<(x.nm.length:Nat))(g1:mS x.b.tx x.b.ft (x.nm.getD (bH x.wh x.nm.length) []))(g2:lI x.b.tx (W6 (1,2)) x.nm)
  (g3:aR (af W7 (W6 (1:Int)) p.ld) [40]=W8->mT (p.ld++x.b.tx++ [41]) (W6 (1,2)) x.nm)
  (g4:aR (af W7 (W6 (1:Int)) p.ld) [40]=W9->mU (p.ld++x.b.tx++ []) (W6 (1,2)) x.nm) (hQ:i4 xs Q):B5 xs p t q Q R x:=by
 obtain⟨t1,t2,t3,t4⟩:=s;have hl:=uF hp;have hl1:=hl.1;have hc:bB W7 (W6 (1:Int)) (aa p.ld):=⟨trivial,by decide,by lia⟩
 have hn:(!(aR (ay x.nm (bH x.wh (aa x.nm)) []) (ay x.nm (bH x.wh (aa x.nm)) []) && (W_ ((-1:Int)= (-1:Int)) && W8)))=W9:=by rw[qU];rfl
 refine⟨by lia,t2,rfl,_,_,_,rfl,⟨by lia,t2⟩,t3,g1,rfl,_,_,rfl,by lia,g2,λ w=>⟨rfl,_,_,x.nm,rfl,⟨t1,t2⟩,hl, ?_⟩⟩
 cases hb:aR (af W7 (W6 (1:Int)) p.ld) [40] with
 | true=>exact⟨g3 hb,λ y b w=>cn (decide_eq_false h3) ⟨by lia,Wy,by lia,rfl,cn hn ⟨by decide,by decide,by decide,by decide,by decide,by decide,by decide,by decide,by decide,rfl,bN (kg _) ⟨by decide,by decide,by decide,by decide,by decide,by decide,by decide,by decide,by decide,rfl,bN (kg _) ⟨by decide,by decide,by decide,by decide,hc,bN hb (hQ _ _ _)⟩⟩⟩⟩⟩
 | false=>exact⟨g4 hb,λ b w=>cn (decide_eq_false h3) ⟨by lia,Wy,by lia,rfl,cn hn ⟨by decide,by decide,by decide,by decide,by decide,by decide,by decide,by decide,by decide,rfl,bN (kg _) ⟨by decide,by decide,by decide,by decide,by decide,by decide,by decide,by decide,by decide,rfl,bN (kg _) ⟨by decide,by decide,by decide,by decide,hc,cn hb (hQ _ _ _)⟩⟩⟩⟩⟩
end
end Mine.Lake
open PySem.Calls
namespace Mine.Lake
noncomputable def jB:Prop:=∀(p:LP) (x:bu),dA p->uq p x->qW p x/\0<=x.wh/\x.wh<(x.nm.length:Nat)/\
 (p.wy<3->qM x.b.tx x.b.ft x.b.pl/\ke x.b.tx x.b.pl/\
  (aR (af W7 (W6 (1:Int)) p.ld) [40]=W8->qN (p.ld++x.b.tx++ [41]) ((p.ld.length:Nat)+x.b.pl+(if p.wy=2 then 1 else 0)))/\
  (aR (af W7 (W6 (1:Int)) p.ld) [40]=W9->qO (p.ld++x.b.tx++ []) ((p.ld.length:Nat)+x.b.pl+0)))/\
 (¬ p.wy<3->mS x.b.tx x.b.ft (x.nm.getD (bH x.wh x.nm.length) [])/\∃o,(o=W7∨o=W6 (1,2))/\lI x.b.tx o x.nm/\
  (aR (af W7 (W6 (1:Int)) p.ld) [40]=W8->mT (p.ld++x.b.tx++ [41]) o x.nm)/\
  (aR (af W7 (W6 (1:Int)) p.ld) [40]=W9->mU (p.ld++x.b.tx++ []) o x.nm))
noncomputable def Rv:aH:=⟨hZ,λ as os Q R=>cz as λ v r=>bM r (fb 2 v (∃xs:List Int×Obj,os= [.tab [], .tab [], .lstR xs.1 xs.2]/\xs.1.length<=63/\i4 xs Q)),17, [585,617],W8⟩
section
variable{w:aQ}{mg mb:Tm}{xs:Lx}{p:LP}{t:Int×Int}{q:ab}{Q:Tq}{R:Tr}{x:bu}{C:Cx}{ads:Ld}{F:Cf}
theorem Rw{P:List bp}(h:∀r∈P,aM r):(P.map cq).flatten.length<=11*P.length:=by
 induction P with
 | nil=>exact ba _
 | cons r P ih=>
  have h1:=ih λ r hr=>h r (.tail _ hr);have h2:= (h r (.head _)).len.2.1;rw[eW,f6,bD,df];have:(cq r).length=r.flatten.length+3:=by unfold cq;simp only[bD,df,fM];lia
  lia
theorem Rx{P:List bp}(h:∀r∈P,aM r):(P.map cB).flatten.length<=11*P.length:=by
 induction P with
 | nil=>exact ba _
 | cons r P ih=>
  have h1:=ih λ r hr=>h r (.tail _ hr);have h2:= (h r (.head _)).len.2.1;rw[eW,f6,bD,df];have:(cB r).length=r.flatten.length+3:=by unfold cB;simp only[bD,df,fM];lia
  lia
theorem B7(hn:(P++cur::S).length<=3):P.length<=2/\S.length<=2:=by
 rw[bD,df]at hn;lia
theorem B8(h:∀r∈P++cur::S,aM r):(∀r∈P,aM r)/\aM cur/\∀r∈S,aM r:=
 ⟨λ r hr=>h r (bU _ hr),h cur (cu _ (.head _)),λ r hr=>h r (cu _ (.tail _ hr))⟩
theorem uG{P:List bp}(hp:dA p)(h:∀r∈P,aM r)(hn:P.length<=2):(ew p.wd P).length<=50:=by
 have h1:=Rw h;have h2:=lH hp;unfold ew;simp only[bD,df,fM];lia
theorem FC.an{an an':fE}(fc:FC w (cR q an) C):FC w (cR q an') C:=⟨fc.scope,fc.hid,fc.qual,fc.code,fc.ini,fc.cells,fc.pins,fc.calm⟩
noncomputable abbrev qX:List cD:=cG 15 22
abbrev WL(w:aQ)(C:Cx)(σ:AS)(b:List cD)(Q:Tq)(R:Tr):Prop:=∀ads,WS w C ads σ (dM b C.env) (bg 3 Q) (dN R)
theorem gE(S:bx w mg mb 608 mI)(hc:Nat.ble c.bud 16=W8)(S2:bx w mg mb 615 c):aX w mg mb 16 (aN [(608,mI),(615,c)]):= (aX.nil.cons S2 hc (by kernel_rfl)).cons S rfl (by kernel_rfl)
theorem Ry(L:jB)(ok:bc w mg mb 16 C)(fc:FC w (cR eQ aS) C)(hc:C.comp=W9)(hp:dA p)(hQ:i4 xs Q)(hb:uq p x):WL w C (oK xs p t x) qX Q R:=λ ads=>by
 refine o8 (L p x hp hb) λ s w1 w2 hF hR=> ?_
 by_cases h3:p.wy<3
 ·refine iH (hF h3) λ g1 g2 g3 g4=> ?_
  exact(mv (gE um rfl Rr) 60).B ok fc.an hc (QK (q:=eQ) (eF hp h3 s g1 g2 g3 g4 hQ))
 ·refine CM (hR h3) λ g1 o ho g2 g3 g4=> ?_
  revert ho;refine fz (λ zr=> ?_) (λ zr=> ?_)
  ·subst zr
   exact(mv (gE um rfl B6) 60).B ok fc.an hc (Q7 (q:=eQ) (Rt hp h3 s w1 w2 g1 g2 g3 g4 hQ))
  ·subst zr
   exact(mv (gE um rfl B6) 60).B ok fc.an hc (Ro (q:=eQ) (Ru hp h3 s w1 w2 g1 g2 g3 g4 hQ))
theorem lK(G:aX w mg mb 16 Γ)(ok:bc w mg mb 16 C)(fc:FC w (cR eQ aS) C)(hc:C.comp=W9)(h2:∀σ,J σ->WL w C σ post Q R)(h:aL Γ (cR eQ an) n pre σ (dF J (bg 3 Q)) (dN R)):WL w C σ (pre++post) Q R:=
 λ ads=>Jv G ok (fc.an (an':=an)) hc (λ ads σ hj=>h2 σ hj ads) h
theorem toL(fc:FC w (cR eQ aS) C)(h:fgt 8 σ τ P)(h2:P->WL w C τ b Q R):WL w C σ b Q R:=λ ads=>Jw fc h λ hp ads=>h2 hp ads
theorem mV{os:La}{P S:List bp}{cur:bp}{wh sp:Int}(L:jB)(ok:bc w mg mb 16 C)(fc:FC w (cR eQ aS) C)(hc:C.comp=W9)(hp:dA p)(hQ:i4 xs Q)(hrs:∀r∈P++cur::S,aM r)(hn:(P++cur::S).length<=3)(hwh:wh= (P.length:Nat))(hs:0<=sp)(hs2:sp<=(cur.length:Nat))
  (vf:aL (aN []) (cR eQ aS) 60 (cG 6 8) ⟨lF p wh sp,eU xs p t++os⟩ (dF (JF xs p t os wh sp) (bg 3 Q)) (dN R))
  (vb:∀f,jk p.wy f->aL (aN []) (cR eQ aS) 60 (cG 8 13) (stF xs p t os wh sp f) (dF (lG xs p t os wh (fw p P S cur sp)) (bg 3 Q)) (dN R))
  (vi:∀x,x.ft.length+x.ah.length<=1048576->fw p P S cur sp x->aL (aN []) (cR eQ aS) 60 (cG 13 14) (oM xs p t os wh x) (dF (qK xs p t os wh (mN p P S cur sp)) (bg 3 Q)) (dN R))
  (vn:∀(x:bC) (okn:bu->Prop),okn ⟨x,(P++cur::S).map da,wh⟩->aL (aN []) (cR eQ qJ) 60 (cG 14 15) (oN xs p t os wh x) (dF (JN xs p t okn) (bg 3 Q)) (dN R)):
  WL w C ⟨lF p wh sp,eU xs p t++os⟩ (cG 6 8++(cG 8 13++(cG 13 14++(cG 14 15++qX)))) Q R:=by
 refine lK aX.nil ok fc hc (λ σ ⟨f,h⟩=>toL fc h λ hf=> ?_) vf;refine lK aX.nil ok fc hc (λ σ ⟨x,h⟩=>toL fc h λ hx=> ?_) (vb f hf);refine lK aX.nil ok fc hc (λ σ ⟨x,h⟩=>toL fc h λ hx=> ?last) (vi x ?len hx)
 case last=>exact lK aX.nil ok fc hc (λ σ ⟨y,h⟩=>toL fc h λ hy=>Ry L ok fc hc hp hQ hy) (vn x (uq p) ⟨P,S,cur,sp,hrs,hn,hs,hs2,hx,rfl,hwh⟩)
 case len=>
  refine cE (B8 hrs) λ m1 m2 m3=> ?_;have h1:=uG hp m1 (B7 hn).1;have h2:= (m2.take (n:=sp.toNat)).len.2.1;rw[hx.1,hx.2.1];lia
noncomputable abbrev oO:List cD:=cG 4 6++(cG 6 8++(cG 8 13++(cG 13 14++(cG 14 15++qX))))
theorem uH{os:La}{rs:List bp}(L:jB)(ok:bc w mg mb 16 C)(fc:FC w (cR eQ aS) C)(hc:C.comp=W9)(hp:dA p)(hQ:i4 xs Q)
  (h:∀wh sp,ka rs wh sp->∀t,WL w C ⟨lF p wh sp,eU xs p t++os⟩ (cG 6 8++(cG 8 13++(cG 13 14++(cG 14 15++qX)))) Q R)
  (vs:aL (aN [(603,j_)]) (cR eQ aS) 60 (cG 4 6) ⟨i5 p,eU xs p t++os⟩ (dF (J2 xs p rs os) (bg 3 Q)) (dN R)):
  WL w C ⟨i5 p,eU xs p t++os⟩ oO Q R:=
 lK (aX.nil.cons AW rfl (by kernel_rfl)) ok fc hc (λ σ ⟨x,hx⟩=>toL fc hx λ hs=>h _ _ hs.2 _) vs
theorem Rz(L:jB)(ok:bc w mg mb 16 C)(fc:FC w (cR eQ aS) C)(hc:C.comp=W9)(hp:dA p)(hQ:i4 xs Q)(ht:bJ 20 t)(ha:aM a):
  WL w C ⟨i5 p,eU xs p t++i6 a⟩ oO Q R:=by
 refine uH (rs:= [a]) L ok fc hc hp hQ (λ wh sp hs t=> ?_) (Qi (b:=a) (c:=a) (f:= []) (x:=⟨0, [], [], []⟩) (wh:=0) (sp:=0) (ok:=λ _=>True) (okn:=λ _=>True) (s1 hp ht ha));have hw:wh=0:=by have h1:=hs.1;have h2:wh<(1:Nat):=hs.2.1;lia
 rcases hw with rfl
 ·exact mV (P:= []) (S:= []) (cur:=a) L ok fc hc hp hQ (λ r hr=>by rcases dI.mp hr with rfl;exact ha) (gM rfl) rfl hs.2.2.1 hs.2.2.2 (Qj (b:=a) (c:=a) (f:= []) (x:=⟨0, [], [], []⟩) (ok:=λ _=>True) (okn:=λ _=>True) (f1 hp)) (λ f hf=>Qk (b:=a) (c:=a) (x:=⟨0, [], [], []⟩) (wh:=0) (okn:=λ _=>True) (Qx hp hf ha hs.2.2.1)) (λ x hl hx=>Ql (b:=a) (c:=a) (f:= []) (sp:=sp) (okn:=λ _=>True) (i1 hl hx)) λ x okn hk=>Qm (b:=a) (c:=a) (f:= []) (sp:=sp) (ok:=λ _=>True) (n1 ha hk)
theorem RA(L:jB)(ok:bc w mg mb 16 C)(fc:FC w (cR eQ aS) C)(hc:C.comp=W9)(hp:dA p)(hQ:i4 xs Q)(ht:bJ 20 t)(ha:aM a)(hb:aM b):
  WL w C ⟨i5 p,eU xs p t++ia a b⟩ oO Q R:=by
 refine uH (rs:= [a,b]) L ok fc hc hp hQ (λ wh sp hs t=> ?_) (Qn (c:=a) (f:= []) (x:=⟨0, [], [], []⟩) (wh:=0) (sp:=0) (ok:=λ _=>True) (okn:=λ _=>True) (s2 hp ht ha hb));have hw:wh=0∨wh=1:=by have h1:=hs.1;have h2:wh<(2:Nat):=hs.2.1;lia
 revert hw;refine fz (λ zr=> ?_) (λ zr=> ?_)
 ·subst zr
  exact mV (P:= []) (S:= [b]) (cur:=a) L ok fc hc hp hQ (λ r hr=>by rcases bR.mp hr with rfl | hr;exact ha;rcases dI.mp hr with rfl;exact hb) (gM rfl) rfl hs.2.2.1 hs.2.2.2 (BF (c:=a) (f:= []) (x:=⟨0, [], [], []⟩) (ok:=λ _=>True) (okn:=λ _=>True) (f2 hp)) (λ f hf=>Qo (c:=a) (x:=⟨0, [], [], []⟩) (wh:=0) (okn:=λ _=>True) (Qy hp hf ha hb hs.2.2.1)) (λ x hl hx=>BH (c:=a) (f:= []) (sp:=sp) (okn:=λ _=>True) (i2 hl hx)) λ x okn hk=>BJ (c:=a) (f:= []) (sp:=sp) (ok:=λ _=>True) (n2 ha hb hk)
 ·subst zr
  exact mV (P:= [a]) (S:= []) (cur:=b) L ok fc hc hp hQ (λ r hr=>by rcases bR.mp hr with rfl | hr;exact ha;rcases dI.mp hr with rfl;exact hb) (gM rfl) rfl hs.2.2.1 hs.2.2.2 (BF (c:=a) (f:= []) (x:=⟨0, [], [], []⟩) (ok:=λ _=>True) (okn:=λ _=>True) (f2 hp)) (λ f hf=>Qp (c:=a) (x:=⟨0, [], [], []⟩) (wh:=0) (okn:=λ _=>True) (Qz hp hf ha hb hs.2.2.1)) (λ x hl hx=>BH (c:=a) (f:= []) (sp:=sp) (okn:=λ _=>True) (i2 hl hx)) λ x okn hk=>BJ (c:=a) (f:= []) (sp:=sp) (ok:=λ _=>True) (n2 ha hb hk)
theorem RC(L:jB)(ok:bc w mg mb 16 C)(fc:FC w (cR eQ aS) C)(hc:C.comp=W9)(hp:dA p)(hQ:i4 xs Q)(ht:bJ 20 t)(ha:aM a)(hb:aM b)(Ut:aM c):
  WL w C ⟨i5 p,eU xs p t++gu a b c⟩ oO Q R:=by
 refine uH (rs:= [a,b,c]) L ok fc hc hp hQ (λ wh sp hs t=> ?_) (Qq (f:= []) (x:=⟨0, [], [], []⟩) (wh:=0) (sp:=0) (ok:=λ _=>True) (okn:=λ _=>True) (s3 hp ht ha hb Ut));have hw:wh=0∨wh=1∨wh=2:=by have h1:=hs.1;have h2:wh<(3:Nat):=hs.2.1;lia
 revert hw;refine rt (λ zr=> ?_) (λ zr=> ?_) (λ zr=> ?_)
 ·subst zr
  exact mV (P:= []) (S:= [b,c]) (cur:=a) L ok fc hc hp hQ (λ r hr=>by rcases bR.mp hr with rfl | hr;exact ha;rcases bR.mp hr with rfl | hr;exact hb;rcases dI.mp hr with rfl;exact Ut) (gM rfl) rfl hs.2.2.1 hs.2.2.2 (ux (f:= []) (x:=⟨0, [], [], []⟩) (ok:=λ _=>True) (okn:=λ _=>True) (f3 hp)) (λ f hf=>Qr (x:=⟨0, [], [], []⟩) (wh:=0) (okn:=λ _=>True) (QA hp hf ha hb Ut hs.2.2.1)) (λ x hl hx=>uB (f:= []) (sp:=sp) (okn:=λ _=>True) (i3 hl hx)) λ x okn hk=>uC (f:= []) (sp:=sp) (ok:=λ _=>True) (n3 ha hb Ut hk)
 ·subst zr
  exact mV (P:= [a]) (S:= [c]) (cur:=b) L ok fc hc hp hQ (λ r hr=>by rcases bR.mp hr with rfl | hr;exact ha;rcases bR.mp hr with rfl | hr;exact hb;rcases dI.mp hr with rfl;exact Ut) (gM rfl) rfl hs.2.2.1 hs.2.2.2 (ux (f:= []) (x:=⟨0, [], [], []⟩) (ok:=λ _=>True) (okn:=λ _=>True) (f3 hp)) (λ f hf=>Qs (x:=⟨0, [], [], []⟩) (wh:=0) (okn:=λ _=>True) (QB hp hf ha hb Ut hs.2.2.1)) (λ x hl hx=>uB (f:= []) (sp:=sp) (okn:=λ _=>True) (i3 hl hx)) λ x okn hk=>uC (f:= []) (sp:=sp) (ok:=λ _=>True) (n3 ha hb Ut hk)
 ·subst zr
  exact mV (P:= [a,b]) (S:= []) (cur:=c) L ok fc hc hp hQ (λ r hr=>by rcases bR.mp hr with rfl | hr;exact ha;rcases bR.mp hr with rfl | hr;exact hb;rcases dI.mp hr with rfl;exact Ut) (gM rfl) rfl hs.2.2.1 hs.2.2.2 (ux (f:= []) (x:=⟨0, [], [], []⟩) (ok:=λ _=>True) (okn:=λ _=>True) (f3 hp)) (λ f hf=>Qt (x:=⟨0, [], [], []⟩) (wh:=0) (okn:=λ _=>True) (QC hp hf ha hb Ut hs.2.2.1)) (λ x hl hx=>uB (f:= []) (sp:=sp) (okn:=λ _=>True) (i3 hl hx)) λ x okn hk=>uC (f:= []) (sp:=sp) (ok:=λ _=>True) (n3 ha hb Ut hk)
theorem RG:fB (tp 71)=cG 0 3++(cG 3 4++oO):=by kernel_rfl
theorem RH(L:jB)(ok:bc w mg mb 16 C)(fc:FC w (cR eQ aS) C)(hc:C.comp=W9)(hl:xs.1.length<=63)(hQ:i4 xs Q):WL w C ⟨[("script", .ob 2)], [.tab [], .tab [], .lstR xs.1 xs.2, .cl0, .cl0, .cl0, .cl0, .cl0]⟩ (fB (tp 71)) Q R:=by
 rw[RG];have G0:aX w mg mb 16 (aN [(603,j_)]):=aX.nil.cons AW rfl (by kernel_rfl)
 refine lK (G0.cons OX rfl (by kernel_rfl)) ok fc hc (λ σ ⟨x,h⟩=>toL fc h λ hx=> ?_) (PD (p:=⟨0,0, [], [],0⟩) (t:= (0,0)) (w0 hl))
 refine lK G0 ok fc hc (λ σ h=> ?_) (Qc (w1 hx.1 hx.2));revert h;refine rt (λ zr=> ?_) (λ zr=> ?_) (λ zr=> ?_)
 ·revert zr
  refine dw λ y h=> ?_;exact toL fc h λ hy=>Rz L ok fc hc hx.1 hQ hy.1 hy.2
 ·revert zr
  refine dw λ y h=> ?_;exact toL fc h λ hy=>RA L ok fc hc hx.1 hQ hy.1 hy.2.1 hy.2.2
 ·revert zr
  refine dw λ y h=> ?_;exact toL fc h λ hy=>RC L ok fc hc hx.1 hQ hy.1 hy.2.1 hy.2.2.1 hy.2.2.2
theorem RI(L:jB):bx w mg mb 620 Rv:=by
 refine y5 (bud:=16) (fd:=ck wa) (body:=fB (tp 71)) (x:= "script") (code:=W6 (619,1)) W8 ["text", "octets", "lead", "front", "tape"] (by kernel_rfl) (ba _)
  (cA rfl) ?_ (λ _=>rfl) (by kernel_rfl) (by kernel_rfl) (λ h=>by contradiction) λ args objs Q R h=> ?_
 ·intro p hp
  injection hp with zq;subst zq
  exact⟨rfl,617,rfl,λ h hi=>yE hi⟩
 ·apply cJ h;intro a1 r h1
  apply cg h1;intro h2;apply fZ h2;refine o9 λ xs zq2 hl hQ=> ?_;subst zq2;exact⟨.ob 2,aS,rfl,λ C ads ok fc hc=>RH L ok (cb (by kernel_rfl) fc) hc hl hQ ads⟩
end
end Mine.Lake
open PySem.Calls
namespace Mine.Lake
def aD(l:Ln)(b:Int)(t:Ln):Prop:=∃u:List Nat,l=u++t/\b= (u.length:Nat)
section
variable{l t m w:Ln}{b e:Int}{c d n:Nat}
theorem aD.all(l:Ln):aD l 0 l:=⟨[],rfl,rfl⟩
theorem aD.mk'(u t:Ln):aD (u++t) (u.length:Nat) t:=⟨u,rfl,rfl⟩
theorem aD.step(h:aD l b (m++t)):aD l (b+(m.length:Nat)) t:=by
 revert h;refine b7 λ u SY zq2=> ?_;subst SY;subst zq2;exact⟨u++m,by rw[cS],by rw[bD];rfl⟩
theorem aD.one(h:aD l b (c::t)):aD l (b+1) t:=h.step (m:= [c])
theorem aD.nn(h:aD l b t):0<=b:=by obtain⟨u,_,rfl⟩:=h;exact eV _
theorem aD.len(h:aD l b t):(l.length:Int)=b+(t.length:Nat):=by
 revert h;refine b7 λ u SY zq2=> ?_;subst SY;subst zq2;rw[bD];rfl
theorem aD.get(h:aD l b t):l.getD (b+(i:Nat)).toNat 0=t.getD i 0:=by
 revert h;refine b7 λ u SY zq2=> ?_;subst SY;subst zq2;rw[show ((u.length:Int)+(i:Nat)).toNat=u.length+i by rfl,dX,dX,kl (by exact kr _ _),Nat.add_sub_cancel_left]
theorem aD.pkI(h:aD l b t)(hi:i<t.length):aq l b l.length (i:Nat)= (t.getD i 0:Nat):=by
 unfold aq;have:=h.nn;have:=h.len;rw[if_pos ⟨by lia,by lia⟩,h.get]
theorem aD.pk(h:aD l b (c::t)):aq l b l.length 0= (c:Nat):=h.pkI (i:=0) (Nat.succ_pos _)
theorem aD.pkn(h:aD l b []):aq l b l.length 0= -1:=by
 unfold aq;have:(l.length:Int)=b+(0:Nat):=h.len;rw[if_neg (by lia)]
theorem aD.cut(h:aD l b (m++t)):a_ l b (b+(m.length:Nat))=m:=by
 revert h;refine b7 λ u SY zq2=> ?_;subst SY;subst zq2;unfold a_;rw[show ((u.length:Int)+(m.length:Nat)).toNat= (u++m).length by rw[bD];rfl,←cS,List.take_left,Int.toNat_natCast,List.drop_left]
theorem aD.st(h:aD l b (w++t)):cM l b w=W8:=by
 show aR (a_ l b (b+(w.length:Nat))) w=W8;rw[h.cut,qU]
theorem aD.starts(h:aD l b (w++t)):bl l b l.length w=W8:=by
 have:=h.len;rw[bD]at this;unfold bl;rw[decide_eq_true (by lia)]
 exact h.st
theorem aD.stF(h:aD l b (c::t))(hc:c≠d):cM l b [d]=W9:=by
 show aR (a_ l b (b+1)) [d]=W9;rw[(show a_ l b (b+1)= [c] from h.cut (m:= [c]))]
 show (aO c d && W8)=W9;rw[Bool.and_true];exact lN.mpr λ q=>hc (dc q)
theorem aD.startsF(h:aD l b (c::t))(hc:c≠d):bl l b l.length [d]=W9:=by
 have:=h.len;rw[df]at this;unfold bl;rw[decide_eq_true (show b+(([d]:Ln).length:Nat)<=(l.length:Nat) by show b+(1:Nat)<=_;lia)]
 exact h.stF hc
theorem aD.run{f:Nat->Prop}(h:aD l b (m++t))(hm:∀x∈m,f x)(h1:b<=j)(h2:j<b+(m.length:Nat)):f (l.getD j.toNat 0):=by
 obtain⟨i,rfl⟩:∃i:Nat,j=b+(i:Nat):=⟨(j - b).toNat,by lia⟩
 have hi:i<m.length:=by lia
 rw[h.get,dX,ib hi,bP hi];exact hm _ (m_ hi)
end
section
variable{l t xs u:Ln}{b:Int}{c n:Nat}{r:bp}
theorem RJ(h:aD l b (34::t)):c8 l l.length (n+1) b xs=⟨W8,xs,b+1,b⟩:=by
 show cond (W_ (aq l b l.length 0=34)) _ _=_;rw[h.pk];rfl
theorem RK(h:aD l b (c::t))(h1:c≠34)(h2:c≠92)(h3:32<=c)(h4:c<127):c8 l l.length (n+1) b xs=c8 l l.length n (b+1) (xs++ [c]):=by
 show cond (W_ (aq l b l.length 0=34)) _ (cond (W_ (aq l b l.length 0=92)) _ (cond (W_ (32<=aq l b l.length 0) && W_ (aq l b l.length 0<127)) (c8 l l.length n (b+1) (xs++ [(aq l b l.length 0).toNat])) _))=_;rw[h.pk,decide_eq_false (show ¬((c:Int)=34) by lia),decide_eq_false (show ¬((c:Int)=92) by lia),decide_eq_true (show (32:Int)<=(c:Nat) by exact kB.mpr ‹_›),decide_eq_true (show ((c:Nat):Int)<127 by exact kA.mpr ‹_›)]
 rfl
theorem RM(h:aD l b (92::c::t))(hc:c=34∨c=92):c8 l l.length (n+1) b xs=c8 l l.length n (b+2) (xs++ [c]):=by
 show cond (W_ (aq l b l.length 0=34)) _ (cond (W_ (aq l b l.length 0=92)) (cond (fX (aq l (b+1) l.length 0) [34,92]) (c8 l l.length n (b+2) (xs++ [(aq l (b+1) l.length 0).toNat])) _) _)=_;rw[h.pk,h.one.pk];rcases hc with rfl | rfl <;> rfl
theorem RQ(h:aD l b (92::c::t))(hc:c≠34)(hc2:c≠92):(c8 l l.length (n+1) b xs).ok=W9/\(c8 l l.length (n+1) b xs).spot=b+1:=by
 have e:c8 l l.length (n+1) b xs=⟨W9,xs,cQ l (b+1) l.length,b+1⟩:=by
  show cond (W_ (aq l b l.length 0=34)) _ (cond (W_ (aq l b l.length 0=92)) (cond (fX (aq l (b+1) l.length 0) [34,92]) _ _) _)=_;rw[h.pk,h.one.pk];have:fX ((c:Nat):Int) [34,92]=W9:=by
   show (W_ ((34:Int)= (c:Nat)) || (W_ ((92:Int)= (c:Nat)) || false))=W9
   rw[decide_eq_false (show ¬((34:Int)= (c:Nat)) by lia),decide_eq_false (show ¬((92:Int)= (c:Nat)) by lia)];rfl
  rw[this];rfl
 rw[e];exact⟨rfl,rfl⟩
theorem B9(h:aq l b l.length 0=i)(h1:i≠34)(h2:i≠92)(h3: ¬ (32<=i/\i<127)):(c8 l l.length (n+1) b xs).ok=W9/\(c8 l l.length (n+1) b xs).spot=b:=by
 have e:c8 l l.length (n+1) b xs=⟨W9,xs,cQ l b l.length,b⟩:=by
  show cond (W_ (aq l b l.length 0=34)) _ (cond (W_ (aq l b l.length 0=92)) _ (cond (W_ (32<=aq l b l.length 0) && W_ (aq l b l.length 0<127)) _ _))=_;have h4:(W_ (32<=i) && W_ (i<127))=W9:=by
   rw[←Bool.decide_and];exact decide_eq_false h3
  rw[h,decide_eq_false h1,decide_eq_false h2,h4];rfl
 rw[e];exact⟨rfl,rfl⟩
noncomputable abbrev qY(u:Ln):List Nat:=af (W6 (-1)) W7 u
theorem qZ(h:u∈bY):(∃c,u= [c]/\qY u= [c]/\c≠34/\c≠92/\32<=c/\c<127)∨∃c,u= [92,c]/\qY u= [c]/\(c=34∨c=92):=by
 unfold bY at h;simp only[bR,List.not_mem_nil,or_false]at h;rcases h with rfl | rfl | rfl | rfl | rfl | rfl | rfl | rfl | rfl | rfl
 all_goals first
  | exact .inl ⟨_,rfl,rfl,by decide,by decide,by decide,by decide⟩
  | exact .inr ⟨_,rfl,rfl, .inl rfl⟩
  | exact .inr ⟨_,rfl,rfl, .inr rfl⟩
theorem RR(hu:u∈bY)(h:aD l b (u++t)):c8 l l.length (n+1) b xs=c8 l l.length n (b+(u.length:Nat)) (xs++qY u):=by
 rcases qZ hu with⟨c,rfl,e,h1,h2,h3,h4⟩ | ⟨c,rfl,e,hc⟩
 ·rw[e];exact RK h h1 h2 h3 h4
 ·rw[e];exact RM h hc
theorem RS:∀{r:bp} {b:Int} {xs:Ln},(∀u∈r,u∈bY)->aD l b (r.flatten++t)->c8 l l.length (n+r.length) b xs=c8 l l.length n (b+(r.flatten.length:Nat)) (xs++da r):=by
 intro r;induction r with
 | nil=>
  intro b xs _ _;show c8 _ _ _ _ _=c8 _ _ _ (b+(0:Nat)) (xs++ []);rw[List.append_nil,oZ,gf];rfl
 | cons u r ih=>
  intro b xs hr h;have h':aD l b (u++(r.flatten++t)):=by rw[f6,cS]at h;exact h
  rw[show n+(u::r).length=n+r.length+1 from rfl,RR (hr u (.head _)) h',ih (λ v hv=>hr v (.tail _ hv)) h'.step,f6,bD]
  rw[show da (u::r)=qY u++da r from rfl,cS,show b+(u.length:Nat)+(r.flatten.length:Nat)=b+((u.length+r.flatten.length:Nat):Int) by(exact lO _ _ _)]
theorem RT:∀{r:bp},(∀u∈r,u∈bY)->r.length<=r.flatten.length:=by
 intro r;induction r with
 | nil=>
  intro _;exact ba _
 | cons u r ih=>
  intro h;have h1:1<=u.length:=by
   rcases qZ (h u (.head _)) with⟨c,rfl,_⟩ | ⟨c,rfl,_⟩
   ·exact ba _
   ·exact Nat.le_succ _
  have h2:=ih λ v hv=>h v (.tail _ hv);rw[f6,bD,df];lia
theorem B_(hr:∀u∈r,u∈bY)(h:aD l b (r.flatten++t)):∃n,bb l b l.length=c8 l l.length (n+1) (b+(r.flatten.length:Nat)) (da r):=by
 have h1:=RT hr;have h2:=h.len;have h3:=h.nn;rw[bD]at h2;refine⟨((l.length:Nat) - b).toNat - r.length, ?_⟩;show c8 l l.length (((l.length:Nat) - b).toNat+1) b []=_;have hm:r.length<=(((l.length:Nat):Int) - b).toNat:=Int.toNat_le_toNat (show ((r.length:Nat):Int)<=(l.length:Nat) - b by lia)
 rw[show (((l.length:Nat):Int) - b).toNat+1= (((l.length:Nat):Int) - b).toNat - r.length+1+r.length by rw[Nat.add_right_comm,Nat.sub_add_cancel hm],RS hr h]
 rfl
theorem q4(hr:∀u∈r,u∈bY)(h:aD l b (r.flatten++34::t)):bb l b l.length=⟨W8,da r,b+(r.flatten.length:Nat)+1,b+(r.flatten.length:Nat)⟩:=by
 refine cv (B_ hr h) λ n e=> ?_;rw[e,RJ h.step]
def q5(t:Ln)(d:Int):Prop:= (t= []/\d=0)∨(∃c s,t=c::s/\(c<32∨127<=c)/\d=0)∨∃c s,t=92::c::s/\c≠34/\c≠92/\d=1
theorem B'(hr:∀u∈r,u∈bY)(h:aD l b (r.flatten++t))(hb:q5 t d):(bb l b l.length).ok=W9/\(bb l b l.length).spot=b+(r.flatten.length:Nat)+d:=by
 refine cv (B_ hr h) λ n e=> ?_;rw[e];rcases hb with⟨rfl,rfl⟩ | ⟨c,s,rfl,hc,rfl⟩ | ⟨c,s,rfl,h1,h2,rfl⟩
 ·rw[gf];exact B9 h.step.pkn (by decide) (by decide) (by decide)
 ·rw[gf];exact B9 h.step.pk (by lia) (by lia) (by lia)
 ·exact RQ h.step h1 h2
end
end Mine.Lake
open PySem.Calls
namespace Mine.Lake
section
variable{l t xs u m:Ln}{b:Int}{c n:Nat}{r:bp}{res:f5}
def WU(u:Ln):Prop:= (∃c,u= [c]/\c≠34/\c≠92/\1<=c/\c<=127/\c≠13/\c≠10)∨∃c,u= [92,c]/\(c=34∨c=92)
theorem RU(h:u∈bY):WU u:=by
 rcases qZ h with⟨c,rfl,_,h1,h2,h3,h4⟩ | ⟨c,rfl,_,h⟩
 ·exact .inl ⟨c,rfl,h1,h2,by lia,by exact f_ ‹_›,by lia,by lia⟩
 ·exact .inr ⟨c,rfl,h⟩
noncomputable abbrev q6(i:Int):Bool:=W_ (i<1) || (W_ (127<i) || eg i.toNat [13,10])
theorem RW(h:aD l b (34::t)):d9 l (n+1) b=⟨W8,b+1⟩:=by
 show cond (W_ (aq l b l.length 0=34)) _ _=_;rw[h.pk];rfl
theorem uI(h:aq l b l.length 0=i)(h1:i≠34)(h2:i≠92):d9 l (n+1) b=cond (q6 i) ⟨W9,b⟩ (d9 l n (b+1)):=by
 show cond (W_ (aq l b l.length 0=34)) _ (cond (W_ (aq l b l.length 0=92)) _ (cond (q6 (aq l b l.length 0)) _ _))=_;rw[h,decide_eq_false h1,decide_eq_false h2];rfl
theorem RX(h3:1<=c)(h4:c<=127)(h5:c≠13)(h6:c≠10):q6 (c:Nat)=W9:=by
 show (W_ ((c:Int)<1) || (W_ (127<(c:Int)) || (aO 13 (au (c:Nat)) || (aO 10 (au (c:Nat)) || false))))=W9
 rw[decide_eq_false (show ¬ ((c:Int)<1) by lia),decide_eq_false (show ¬ (127<(c:Int)) by lia),Int.toNat_natCast,
  lN.mpr λ q=>h5 (dc q).symm,lN.mpr λ q=>h6 (dc q).symm];rfl
theorem RY(h:c=0∨127<c∨c=13∨c=10):q6 (c:Nat)=W8:=by
 rcases h with rfl | h | rfl | rfl
 ·rfl
 ·show (W_ ((c:Int)<1) || (W_ (127<(c:Int)) || _))=W8
  rw[decide_eq_true (show 127<(c:Int) by exact kA.mpr ‹_›)];simp
 ·rfl
 ·rfl
theorem Ca(h:aD l b (92::c::t)):d9 l (n+1) b=cond (W_ ((c:Int)=34) || decide ((c:Int)=92)) (d9 l n (b+2)) ⟨W9,b+1⟩:=by
 show cond (W_ (aq l b l.length 0=34)) _ (cond (W_ (aq l b l.length 0=92)) (cond (W_ (aq l (b+1) l.length 0=34) || decide (aq l (b+1) l.length 0=92)) _ _) _)=_
 rw[h.pk,h.one.pk];rfl
theorem RZ(hu:WU u)(h:aD l b (u++t)):d9 l (n+1) b=d9 l n (b+(u.length:Nat)):=by
 rcases hu with⟨c,rfl,h1,h2,h3,h4,h5,h6⟩ | ⟨c,rfl,hc⟩
 ·rw[uI (aD.pk h) (by lia) (by lia),RX h3 h4 h5 h6];rfl
 ·rw[Ca h]
  rcases hc with rfl | rfl <;> rfl
theorem R0:∀{r:bp} {b:Int},(∀u∈r,WU u)->aD l b (r.flatten++t)->d9 l (n+r.length) b=d9 l n (b+(r.flatten.length:Nat)):=by
 intro r;induction r with
 | nil=>
  intro b _ _;show d9 _ _ _=d9 _ _ (b+(0:Nat));rw[oZ,gf];rfl
 | cons u r ih=>
  intro b hr h;have h':aD l b (u++(r.flatten++t)):=by rw[f6,cS]at h;exact h
  rw[show n+(u::r).length=n+r.length+1 from rfl,RZ (hr u (.head _)) h',ih (λ v hv=>hr v (.tail _ hv)) h'.step,f6,bD]
  rw[show b+(u.length:Nat)+(r.flatten.length:Nat)=b+((u.length+r.flatten.length:Nat):Int) by(exact lO _ _ _)]
theorem R2:∀{r:bp},(∀u∈r,WU u)->r.length<=r.flatten.length:=by
 intro r;induction r with
 | nil=>
  intro _;exact ba _
 | cons u r ih=>
  intro h;have h1:1<=u.length:=by
   rcases h u (.head _) with⟨c,rfl,_⟩ | ⟨c,rfl,_⟩
   ·exact ba _
   ·exact Nat.le_succ _
  have h2:=ih λ v hv=>h v (.tail _ hv);rw[f6,bD,df];lia
theorem Cb(hr:∀u∈r,WU u)(h:aD l b (r.flatten++t)):∃n,eu l b=d9 l (n+1) (b+(r.flatten.length:Nat)):=by
 have h1:=R2 hr;have h2:=h.len;have h3:=h.nn;rw[bD]at h2;refine⟨((l.length:Nat) - b).toNat - r.length, ?_⟩;show d9 l (((l.length:Nat) - b).toNat+1) b=_;have hm:r.length<=(((l.length:Nat):Int) - b).toNat:=Int.toNat_le_toNat (show ((r.length:Nat):Int)<=(l.length:Nat) - b by lia)
 rw[show (((l.length:Nat):Int) - b).toNat+1= (((l.length:Nat):Int) - b).toNat - r.length+1+r.length by rw[Nat.add_right_comm,Nat.sub_add_cancel hm],R0 hr h]
theorem R3(hr:∀u∈r,WU u)(h:aD l b (r.flatten++34::t)):eu l b=⟨W8,b+(r.flatten.length:Nat)+1⟩:=by
 refine cv (Cb hr h) λ n e=> ?_;rw[e,RW h.step]
def q7(t:Ln)(d:Int):Prop:= (t= []/\d=0)∨(∃c s,t=c::s/\(c=0∨127<c∨c=13∨c=10)/\d=0)∨∃c s,t=92::c::s/\c≠34/\c≠92/\d=1
theorem R4(hr:∀u∈r,WU u)(h:aD l b (r.flatten++t))(hb:q7 t d):eu l b=⟨W9,b+(r.flatten.length:Nat)+d⟩:=by
 refine cv (Cb hr h) λ n e=> ?_;rw[e];rcases hb with⟨rfl,rfl⟩ | ⟨c,s,rfl,hc,rfl⟩ | ⟨c,s,rfl,h1,h2,rfl⟩
 ·rw[gf,uI h.step.pkn (by decide) (by decide)];rfl
 ·rw[gf,uI h.step.pk (by lia) (by lia),RY hc];rfl
 ·rw[Ca h.step,decide_eq_false (show ¬ ((c:Int)=34) by lia),decide_eq_false (show ¬ ((c:Int)=92) by lia)];rfl
def SG(m:Ln):Prop:=∀c∈m,32<=c/\c<=126/\c≠93/\c≠34
theorem q8:∀{m:Ln} {b:Int},SG m->aD l b (m++t)->SE l (b+(m.length:Nat)) res->SE l b res:=by
 intro m;induction m with
 | nil=>
  intro b _ _ h2;rw[show b+(([]:Ln).length:Nat)=b from gf b]at h2;exact h2
 | cons c m ih=>
  intro b hm h h2;have h:aD l b (c::(m++t)):=h;refine iH (hm c (.head _)) λ h3 h4 h5 h6=> ?_;have e:aP l b= (c:Nat):=h.pk;refine .sign (by lia) (by lia) (by lia) (by lia) (ih (λ d hd=>hm d (.tail _ hd)) h.one ?_)
  rw[df]at h2;rw[show b+1+(m.length:Nat)=b+((m.length+1:Nat):Int) by lia]
  exact h2
theorem uJ(hr:∀u∈r,WU u)(h:aD l b ([34]++r.flatten++34::t))(h2:SE l (b+((r.flatten.length+2:Nat):Int)) res):SE l b res:=by
 rw[cS]at h;have e:=R3 hr h.step;have e:eu l (b+1)=⟨W8,b+1+(r.flatten.length:Nat)+1⟩:=e;refine .quo (aD.pk h) (by rw[e]) ?_
 rw[e];show SE l (b+1+(r.flatten.length:Nat)+1) res;rw[show b+1+(r.flatten.length:Nat)+1=b+((r.flatten.length+2:Nat):Int) by lia]
 exact h2
theorem R5(hr:∀u∈r,WU u)(h:aD l b ([34]++(r.flatten++t)))(hb:q7 t d):SE l b ⟨W9,b+1+(r.flatten.length:Nat)+d⟩:=by
 have e:eu l (b+1)=⟨W9,b+1+(r.flatten.length:Nat)+d⟩:=R4 hr h.step hb;have:=SE.bad (b:=b) (aD.pk h) (by rw[e])
 rw[e]at this;exact this
theorem ki(h:aM r):∀u∈r,WU u:=λ u hu=>RU (h.2 u hu)
theorem R6:∀{P:List bp} {b:Int},(∀r∈P,aM r)->aD l b ((P.map cq).flatten++t)->SE l (b+((P.map cq).flatten.length:Nat)) res->SE l b res:=by
 intro P;induction P with
 | nil=>
  intro b _ _ h2;have h2:SE l (b+(0:Nat)) res:=h2;rw[oZ,gf]at h2;exact h2
 | cons r P ih=>
  intro b hp h h2;have h:aD l b (([34]++r.flatten++ [34,32])++(P.map cq).flatten++t):=h;have e:([34]++r.flatten++ [34,32])++(P.map cq).flatten++t= [34]++r.flatten++34::(32::((P.map cq).flatten++t)):=by simp[cS]
  rw[e]at h;have hs:=h;rw[show[34]++r.flatten++34::(32::((P.map cq).flatten++t))= ([34]++r.flatten++ [34])++32::((P.map cq).flatten++t) by simp[cS]]at hs
  have hs:=aD.step (m:= [34]++r.flatten++ [34]) hs;rw[show ([34]++r.flatten++ [34]:Ln).length=r.flatten.length+2 by simp]at hs
  refine uJ (ki (hp r (.head _))) h (q8 (m:= [32]) (λ c hc=>by rw[dI.mp hc];decide) hs (ih (λ r hr=>hp r (.tail _ hr)) hs.one ?_))
  rw[show ((r::P).map cq).flatten.length= (([34]++r.flatten++ [34,32])++(P.map cq).flatten).length from rfl]at h2
  simp only[bD,df,fM]at h2;rw[show b+((r.flatten.length+2:Nat):Int)+(([32]:Ln).length:Nat)+((P.map cq).flatten.length:Nat)=b+((0+1+r.flatten.length+(0+1+1)+(P.map cq).flatten.length:Nat):Int) by show b+((r.flatten.length+2:Nat):Int)+(1:Nat)+_=_;lia]
  exact h2
theorem R7:∀{P:List bp} {b:Int},(∀r∈P,aM r)->aD l b ((P.map cB).flatten++t)->SE l (b+((P.map cB).flatten.length:Nat)) res->SE l b res:=by
 intro P;induction P with
 | nil=>
  intro b _ _ h2;have h2:SE l (b+(0:Nat)) res:=h2;rw[oZ,gf]at h2;exact h2
 | cons r P ih=>
  intro b hp h h2;have h:aD l b (([32,34]++r.flatten++ [34])++(P.map cB).flatten++t):=h;have e:([32,34]++r.flatten++ [34])++(P.map cB).flatten++t=32::([34]++r.flatten++34::((P.map cB).flatten++t)):=by simp[cS]
  rw[e]at h;have hs:=h.one;rw[show[34]++r.flatten++34::((P.map cB).flatten++t)= ([34]++r.flatten++ [34])++((P.map cB).flatten++t) by simp[cS]]at hs
  have hs:=aD.step (m:= [34]++r.flatten++ [34]) hs;rw[show ([34]++r.flatten++ [34]:Ln).length=r.flatten.length+2 by simp]at hs
  refine q8 (m:= [32]) (λ c hc=>by rw[dI.mp hc];decide) h (uJ (ki (hp r (.head _))) h.one (ih (λ r hr=>hp r (.tail _ hr)) hs ?_))
  rw[show ((r::P).map cB).flatten.length= (([32,34]++r.flatten++ [34])++(P.map cB).flatten).length from rfl]at h2
  simp only[bD,df,fM]at h2;rw[show b+(([32]:Ln).length:Nat)+((r.flatten.length+2:Nat):Int)+((P.map cB).flatten.length:Nat)=b+((0+1+1+r.flatten.length+(0+1)+(P.map cB).flatten.length:Nat):Int) by show b+(1:Nat)+((r.flatten.length+2:Nat):Int)+_=_;lia]
  exact h2
end
section
variable{l t:Ln}{b:Int}{r:bp}{acc:Ll}{res:eB}
theorem Cc:∀{P:List bp} {b:Int} {acc:Ll},(∀r∈P,aM r)->aD l b ((P.map cq).flatten++t)->NM l l.length (b+((P.map cq).flatten.length:Nat)) (acc++P.map da) res->NM l l.length b acc res:=by
 intro P;induction P with
 | nil=>
  intro b acc _ _ h2;have h2:NM l l.length (b+(0:Nat)) (acc++ []) res:=h2;rw[oZ,gf,List.append_nil]at h2;exact h2
 | cons r P ih=>
  intro b acc hp h h2;have h:aD l b (([34]++r.flatten++ [34,32])++(P.map cq).flatten++t):=h;have e:([34]++r.flatten++ [34,32])++(P.map cq).flatten++t=34::(r.flatten++34::(32::((P.map cq).flatten++t))):=by simp[cS]
  rw[e]at h;have hq:=q4 (hp r (.head _)).2 h.one;have hs:= (h.one.step).one;refine .more h.pk (by rw[hq]) ?_ ?_
  ·rw[hq];exact hs.pk
  ·rw[hq]
   refine ih (λ r hr=>hp r (.tail _ hr)) hs.one ?_;rw[show ((r::P).map cq).flatten.length= (([34]++r.flatten++ [34,32])++(P.map cq).flatten).length from rfl]at h2
   simp only[bD,df,fM]at h2;rw[show acc++(r::P).map da=acc++ [da r]++P.map da by simp]at h2
   rw[show b+1+(r.flatten.length:Nat)+1+1+((P.map cq).flatten.length:Nat)=b+((0+1+r.flatten.length+(0+1+1)+(P.map cq).flatten.length:Nat):Int) by lia]
   exact h2
theorem R8:∀{S:List bp} {r:bp} {b:Int} {acc:Ll},aM r->(∀r∈S,aM r)->aD l b (34::(r.flatten++34::((S.map cB).flatten++41::t)))->
  NM l l.length b acc ⟨W8,acc++da r::S.map da,b+((r.flatten.length+2+(S.map cB).flatten.length:Nat):Int),0⟩:=by
 intro S;induction S with
 | nil=>
  intro r b acc hr _ h;have hq:=q4 hr.2 h.one;have hs:= (h.one.step).one;have:=NM.one (acc:=acc) h.pk (by rw[hq]) (by rw[hq];exact λ e=>by rw[aD.pk hs]at e;contradiction)
  rw[hq]at this;rw[show b+((r.flatten.length+2+(([]:List bp).map cB).flatten.length:Nat):Int)=b+1+(r.flatten.length:Nat)+1 by show b+((r.flatten.length+2+0:Nat):Int)=_;lia]
  exact this
 | cons s S ih=>
  intro r b acc hr hS h;have hq:=q4 hr.2 h.one;have hs:= (h.one.step).one;have e:((s::S).map cB).flatten++41::t=32::(34::(s.flatten++34::((S.map cB).flatten++41::t))):=by
   show ([32,34]++s.flatten++ [34])++(S.map cB).flatten++41::t=_;simp[cS]
  rw[e]at hs;have ih:=ih (acc:=acc++ [da r]) (hS s (.head _)) (λ r hr=>hS r (.tail _ hr)) hs.one;refine .more h.pk (by rw[hq]) (by rw[hq];exact hs.pk) ?_
  rw[hq];rw[show acc++da r::(s::S).map da=acc++ [da r]++da s::S.map da by simp]
  have e2:((s::S).map cB).flatten.length=s.flatten.length+3+(S.map cB).flatten.length:=by
   show (([32,34]++s.flatten++ [34])++(S.map cB).flatten).length=_;simp only[bD,df,fM];lia
  rw[e2,show b+((r.flatten.length+2+(s.flatten.length+3+(S.map cB).flatten.length):Nat):Int)=b+1+(r.flatten.length:Nat)+1+1+((s.flatten.length+2+(S.map cB).flatten.length:Nat):Int) by lia]
  exact ih
theorem R9(hr:aM r)(h:aD l b (34::(r.flatten++t)))(hb:q5 t d):∃res,NM l l.length b acc res/\res.ok=W9/\res.spot=b+1+(r.flatten.length:Nat)+d:=by
 refine aI (B' hr.2 h.one hb) λ h1 h2=> ?_;exact⟨_, .bad h.pk h1,rfl,h2⟩
end
end Mine.Lake
open PySem.Calls
namespace Mine.Lake
noncomputable abbrev HF:List Nat:= [72,69,65,68,69,82,46,70,73,69,76,68,83]
noncomputable abbrev HN:List Nat:= [72,69,65,68,69,82,46,70,73,69,76,68,83,46,78,79,84]
theorem Cd:gr= [HF, [49,46,50,46]++HN]:=by kernel_rfl
noncomputable def dO(wd:Ln):List Nat:= ([91]++wd)++ [32,40]
section
variable{l t v m wd:Ln}{a b k:Int}{r:eB}{P S:List bp}{cur A:bp}{res:f5}
theorem aD.at0(h:aD l b (m++t))(hj:j<m.length)(hc:m.getD j 0=c):aq l b l.length (j:Nat)= (c:Nat):=by
 rw[h.pkI (by rw[bD];lia),dX,ib hj,←dX,hc]
theorem Ce(h:aD v a (m++32::t))(hm:∀c∈m,eg c j5=W8):TW v j5 a v.length (a+(m.length:Nat)):=by
 have h1:=h.len;rw[bD,df]at h1;refine⟨by lia, .inl (by lia),λ j h2 h3=>h.run (f:=λ c=>eg c j5=W8) hm h2 h3,λ _=> ?_⟩
 have:=h.step.get (i:=0);rw[show a+(m.length:Nat)+(0:Nat)=a+(m.length:Nat) from gf _]at this
 rw[this];show eg 32 j5=W9;decide+kernel
theorem Cg(hw:wd∈gr):∃o k,(o=W7∨o=W6 (1,2))/\∀(v t:Ln) (r:eB),v=dO wd++t->NM v v.length ((dO wd).length:Nat) [] r->(r.ok=W8->bl v r.place v.length [41]=W8/\bl v (r.place+1) v.length [93]=W8/\r.place+2=v.length/\r.names.length<=500000)->ff v o k (1+(wd.length:Nat)) r:=by
 rw[Cd]at hw;rcases bR.mp hw with rfl | hw
 ·refine⟨W7,1, .inl rfl,λ v t r hv hn hf=> ?_⟩
  have s0:aD v 0 ([91]++(HF++([32]++([40]++t)))):=by rw[hv];exact aD.all _
  have s1:aD v 1 (HF++([32]++([40]++t))):=s0.one;have s14:aD v 14 ([32]++([40]++t)):=s1.step;have s15:aD v 15 ([40]++t):=s14.one;exact { open_:=s0.starts,path:= .inl ⟨by rw[s1.pk];rfl,rfl,rfl⟩,noEnd:=s1.startsF (by decide),dot:= .inl rfl,tw:=Ce s1 (by decide+kernel),word:=by rw[show a_ v (dG 1 W7) (1+(HF.length:Nat))=HF from s1.cut];decide+kernel,sp:=s14.starts,br:=s15.starts,nm:=hn,fin:=hf }
 ·obtain rfl:=dI.mp hw
  refine⟨W6 (1,2),4, .inr rfl,λ v t r hv hn hf=> ?_⟩;have s0:aD v 0 ([91]++([49,46,50,46]++(HN++([32]++([40]++t))))):=by rw[hv];exact aD.all _
  have s1:aD v 1 ([49,46,50,46,72]++(HN.tail++([32]++([40]++t)))):=s0.one;have s4:aD v 4 ([46]++(HN++([32]++([40]++t)))):=s0.step (m:= [91,49,46,50]);have s5:aD v 5 (HN++([32]++([40]++t))):=s4.one;have s22:aD v 22 ([32]++([40]++t)):=s5.step;have s23:aD v 23 ([40]++t):=s22.one;refine { open_:=s0.starts,path:= .inr ⟨s1.at0 (j:=0) (by decide) rfl,s1.at0 (j:=1) (by decide) rfl,s1.at0 (j:=2) (by decide) rfl,s1.at0 (j:=3) (by decide) rfl,by rw[show (4:Int)= ((4:Nat):Int) from rfl,s1.at0 (j:=4) (c:=72) (by decide) rfl];rfl,rfl,rfl⟩,noEnd:=s4.startsF (by decide),dot:= .inr s4.starts,tw:=Ce s5 (by decide+kernel),word:= ?_,sp:=s22.starts,br:=s23.starts,nm:=hn,fin:=hf }
  rw[show a_ v (dG 4 (W6 (1,2))) (1+((([49,46,50,46]++HN):Ln).length:Nat))=HN from s5.cut];decide+kernel
theorem Ci(hw:wd∈gr):SG (dO wd):=by
 rw[Cd]at hw;rcases bR.mp hw with rfl | hw
 ·unfold SG;decide
 ·obtain rfl:=dI.mp hw;unfold SG;decide
def PL(m:Ln):Prop:=∀c∈m,32<=c/\c<=126
theorem PL.app(h1:PL m)(h2:PL n):PL (m++n):=λ c hc=>(bV.mp hc).elim (h1 c) (h2 c)
theorem mW(h:aM A):PL A.flatten:=λ c hc=>by
 refine aj (List.mem_flatten.mp hc) λ u hu hc=> ?_;rcases qZ (h.2 u hu) with⟨d,rfl,_,_,_,h3,h4⟩ | ⟨d,rfl,_,h3⟩
 ·rw[dI.mp hc];lia
 ·rcases bR.mp hc with rfl | hc
  ·decide
  ·rw[dI.mp hc];lia
theorem kj(h:m.all (λ c=>decide (32<=c) && W_ (c<=126))=W8):PL m:=λ c hc=>by
 have:=i8.mp h c hc
 simpa using this
theorem q9(h:∀r∈P,aM r):PL (P.map cq).flatten:=λ c hc=>by
 refine aj (List.mem_flatten.mp hc) λ u hu hc=> ?_;refine aj (cZ.mp hu) λ r hr zq2=> ?_;subst zq2;exact(((kj (m:= [34]) rfl).app (mW (h r hr))).app (kj (m:= [34,32]) rfl)) c hc
theorem R_(h:∀r∈P,aM r):PL (P.map cB).flatten:=λ c hc=>by
 refine aj (List.mem_flatten.mp hc) λ u hu hc=> ?_;refine aj (cZ.mp hu) λ r hr zq2=> ?_;subst zq2;exact(((kj (m:= [32,34]) rfl).app (mW (h r hr))).app (kj (m:= [34]) rfl)) c hc
theorem q_(hw:wd∈gr):PL (dO wd):=λ c hc=>let ⟨h1,h2,_⟩:=Ci hw c hc;⟨h1,h2⟩
noncomputable def gv(S:List bp)(dr:bp):List Nat:=dr.flatten++34::((S.map cB).flatten++ [41,93])
theorem uK(hd:aM A)(h:∀r∈S,aM r):PL (gv S A):=
 (mW hd).app ((kj (m:= [34]) rfl).app ((R_ h).app (kj (m:= [41,93]) rfl)))
theorem Sa{R:bp}(hR:∀u∈R,WU u)(hS:∀r∈S,aM r)(h:aD l b ([34]++R.flatten++34::((S.map cB).flatten++41::93::t))):SE l b ⟨W8,b+((R.flatten.length+2+(S.map cB).flatten.length+2:Nat):Int)⟩:=by
 have hs:=h;rw[show[34]++R.flatten++34::((S.map cB).flatten++41::93::t)= ([34]++R.flatten++ [34])++((S.map cB).flatten++41::93::t) by simp[cS]]at hs
 have hs:=aD.step (m:= [34]++R.flatten++ [34]) hs;rw[show ([34]++R.flatten++ [34]:Ln).length=R.flatten.length+2 by simp]at hs
 refine uJ hR h (R7 hS hs (q8 (m:= [41]) (t:=93::t) (λ c hc=>by rw[dI.mp hc];decide) hs.step ?_))
 have:=SE.close (l:=l) (b:=b+((R.flatten.length+2:Nat):Int)+((S.map cB).flatten.length:Nat)+1) hs.step.one.pk;rw[show b+((R.flatten.length+2:Nat):Int)+((S.map cB).flatten.length:Nat)+1+1=b+((R.flatten.length+2+(S.map cB).flatten.length+2:Nat):Int) by lia]at this
 exact this
theorem Cj(hw:wd∈gr)(hP:∀r∈P,aM r)(h:aD l a (dO wd++((P.map cq).flatten++t)))(h2:SE l (a+((dO wd).length:Nat)+((P.map cq).flatten.length:Nat)) res):SE l a res:=
 q8 (Ci hw) h (R6 hP h.step h2)
end
end Mine.Lake
open PySem.Calls
namespace Mine.Lake
theorem Ck:j'= [[66,79,68,89], [66,79,68,89,46,80,69,69,75], [40,85,73,68,32,98,111,100,121], [40,70,76,65,71,83,32,66,79,68,89,46,112,101,101,107]]:=by kernel_rfl
section
variable{l t T U tw tl m wd ld ft:Ln}{a b d:Int}{c:Nat}{r:eB}{P S:List bp}{cur A R:bp}{res:f5}
 {T0 T1 Q0 Q1:Int->List Nat->List Nat->List (List Nat)->Prop} {TN RN:Int->Prop} {TD RD:Int->Int->Prop} {Uz Uy:Int->List Nat->List (List Nat)->Prop} {N D:Int->Prop}
theorem uL(h:aD l a (m++c::t))(hm:∀x∈m,eC (x:Nat)=W8)(hc:eC (c:Nat)=W9):IT l a (a+(m.length:Nat)):=by
 have h1:=h.len;rw[bD,df]at h1;refine⟨by lia, .inl (by lia),λ j h2 h3=>h.run (f:=λ c=>eC (c:Nat)=W8) hm h2 h3,λ _=> ?_⟩
 have:=h.step.get (i:=0);rw[show a+(m.length:Nat)+(0:Nat)=a+(m.length:Nat) from gf _]at this
 rw[this];exact hc
theorem Cm(hl:ld∈j')(hb:aR (af W7 (W6 (1:Int)) ld) [40]=W9)(hs:aD l 0 (ld++91::t))(h:∀k,gK l (ld.length:Nat) (λ p w ys=>Q0 p k w ys) (λ p w ys=>Q1 p k w ys) RN (RD (ld.length:Nat))):eE l 0 T0 T1 Q0 Q1 TN TD RN RD:=by
 rw[Ck]at hl;have one:∀{m:Ln} {c:Nat},ld=c::m->c≠40->(∀x∈ld,eC (x:Nat)=W8)->cw (ld.map bI) jh=W8->eE l 0 T0 T1 Q0 Q1 TN TD RN RD:=λ {m c} e h1 h2 h3=>by
  have hp:aP l 0= (c:Nat):=by rw[e]at hs;exact hs.pk
  refine cn (decide_eq_false (by rw[hp];lia)) ⟨(ld.length:Nat), ?_,by rw[e,df];simp, ?_, ?_,h _⟩
  ·have:=uL hs h2 (by decide)
   rw[Int.zero_add]at this;exact this
  ·have:a_ l 0 (ld.length:Nat)=ld:=by have:=hs.cut;rw[Int.zero_add]at this;exact this
   unfold eN;rw[this];exact h3
  ·have:=hs.step
   rw[Int.zero_add]at this;exact this.pk
 simp only[bR,List.not_mem_nil,or_false]at hl;revert hl;refine gj (λ zr=> ?_) (λ zr=> ?_) (λ zr=> ?_) (λ zr=> ?_)
 ·subst zr
  exact one rfl (by decide) (by decide+kernel) (by decide+kernel)
 ·subst zr
  exact one rfl (by decide) (by decide+kernel) (by decide+kernel)
 ·subst zr
  contradiction
 ·subst zr
  contradiction
theorem Cn(hl:ld∈j')(hb:aR (af W7 (W6 (1:Int)) ld) [40]=W8)(hs:aD l 0 (ld++91::t))(h:∀k,gK l (ld.length:Nat) (λ p w ys=>cM l p [41]=W8/\T0 p k w ys) (λ p w ys=>cM l p [41]=W8/\T1 p k w ys) TN (TD (ld.length:Nat))):eE l 0 T0 T1 Q0 Q1 TN TD RN RD:=by
 rw[Ck]at hl;have two:∀{c d:Nat} {m n:Ln},ld=40::(c::m++32::(d::n))->c≠41->(∀x∈c::m,eC (x:Nat)=W8)->cw ((c::m).map bI) jh=W9->cw ((c::m).map bI) oz=W9->cw ((c::m).map bI) oA=W8->(∀x∈d::n,eC (x:Nat)=W8)->cw ((d::n).map bI) jh=W8->eE l 0 T0 T1 Q0 Q1 TN TD RN RD:=λ {c d m n} e h1 h2 h3 h4 h5 h6 h7=>by
  have T_:aD l 0 (40::(c::m++32::(d::n++91::t))):=by rw[e]at hs;simpa[cS] using hs
  have s1:aD l (0+1) (c::m++32::(d::n++91::t)):=T_.one;have s2:aD l (0+1+((c::m).length:Nat)) (32::(d::n++91::t)):=s1.step;have s3:aD l (0+1+((c::m).length:Nat)+1) (d::n++91::t):=s2.one;have s4:aD l (0+1+((c::m).length:Nat)+1+((d::n).length:Nat)) (91::t):=s3.step;have hlen:(ld.length:Int)=0+1+((c::m).length:Nat)+1+((d::n).length:Nat):=by
   rw[e];simp only[bD,df];lia
  rw[hlen]at h;have l1:0<(c::m).length:=Nat.succ_pos _;have l2:0<(d::n).length:=Nat.succ_pos _;refine bN (decide_eq_true T_.pk) ⟨aD.st (w:= [40]) T_,aD.stF s1 h1,_,uL s1 h2 (by decide),by lia, ?_, ?_, ?_,aD.stF s2 (by decide),aD.st (w:= [32]) s2,_,uL s3 h6 (by decide),by lia, ?_,s4.pk,h _⟩
  ·unfold eN;rw[s1.cut];exact h3
  ·unfold eN;rw[s1.cut];exact h4
  ·unfold eN;rw[s1.cut];exact h5
  ·unfold eN;rw[s3.cut];exact h7
 simp only[bR,List.not_mem_nil,or_false]at hl;revert hl;refine gj (λ zr=> ?_) (λ zr=> ?_) (λ zr=> ?_) (λ zr=> ?_)
 ·subst zr
  contradiction
 ·subst zr
  contradiction
 ·subst zr
  exact two (c:=85) (d:=98) (m:= [73,68]) (n:= [111,100,121]) rfl (by decide) (by decide+kernel) (by decide+kernel) (by decide+kernel) (by decide+kernel) (by decide+kernel) (by decide+kernel)
 ·subst zr
  exact two (c:=70) (d:=66) (m:= [76,65,71,83]) (n:= [79,68,89,46,112,101,101,107]) rfl (by decide) (by decide+kernel) (by decide+kernel) (by decide+kernel) (by decide+kernel) (by decide+kernel) (by decide+kernel)
noncomputable abbrev eR(wd:Ln)(P:List bp)(A:bp)(tl:Ln):List Nat:=dO wd++((P.map cq).flatten++34::(A.flatten++tl))
noncomputable abbrev fL(wd:Ln)(P:List bp):Nat:= (dO wd).length+(P.map cq).flatten.length
theorem Sb(hw:wd∈gr)(hP:∀r∈P,aM r)(hA:aM A)(Ur:∀c∈eR wd P A tl,c<=126)(hb:q5 tl d):ke (eR wd P A tl) ((fL wd P:Nat)+1+(A.flatten.length:Nat)+d):=by
 refine cY (Cg hw) λ o k ho hrs=> ?_;have s:aD (eR wd P A tl) 0 (dO wd++((P.map cq).flatten++34::(A.flatten++tl))):=aD.all _;have s1:=s.step;rw[Int.zero_add]at s1;refine cO (R9 (acc:= []++P.map da) hA s1.step hb) λ res h1 h2 h3=> ?_;refine .inr ⟨Ur,k,1+(wd.length:Nat),res,cn h2 ⟨⟨o,hrs _ _ res rfl (Cc hP s1 h1) λ h=>by rw[h2]at h;contradiction⟩, ?_⟩⟩
 rw[h3];show _= ((((dO wd).length+(P.map cq).flatten.length:Nat)):Int)+1+_+d;rfl
theorem Sd(hw:wd∈gr)(hP:∀r∈P,aM r)(hA:aM A)(hc:126<c):ke (eR wd P A (c::t)) ((fL wd P:Nat)+1+(A.flatten.length:Nat)):=by
 have e:eR wd P A (c::t)= (dO wd++((P.map cq).flatten++([34]++A.flatten)))++c::t:=by simp[cS]
 have hl:(dO wd++((P.map cq).flatten++([34]++A.flatten))).length=fL wd P+1+A.flatten.length:=by
  simp only[bD,df,fM];show _= (dO wd).length+(P.map cq).flatten.length+1+A.flatten.length;lia
 have Ur:PL (dO wd++((P.map cq).flatten++([34]++A.flatten))):= (q_ hw).app ((q9 hP).app ((kj rfl).app (mW hA)));rw[e]
 generalize dO wd++((P.map cq).flatten++([34]++A.flatten))=pr at hl Ur ⊢
 refine .inl ⟨pr.length, ?_, ?_,λ j hj=> ?_,by rw[hl];show (((dO wd).length+(P.map cq).flatten.length+1+A.flatten.length:Nat):Int)= (((dO wd).length+(P.map cq).flatten.length:Nat):Int)+1+(A.flatten.length:Nat);rfl⟩
 ·rw[bD,df];simp
 ·rw[dX,kl (ba _),Nat.sub_self];exact hc
 ·rw[dX,ib hj,bP hj]
  exact(Ur _ (m_ hj)).2
theorem Se(hw:wd∈gr)(hP:∀r∈P,aM r)(hc:aM cur)(hS:∀r∈S,aM r)(hT:T=eR wd P cur (34::((S.map cB).flatten++ [41,93])))(hn:(P++cur::S).length<=3):∃o,(o=W7∨o=W6 (1,2))/\lI T o ((P++cur::S).map da):=by
 refine cY (Cg hw) λ o k ho hrs=> ?_;have s:aD T 0 (dO wd++((P.map cq).flatten++34::(cur.flatten++34::((S.map cB).flatten++41:: [93])))):=by rw[hT];exact aD.all _
 have Ur:∀c∈T,c<=126:=λ c h=>by
  rw[hT]at h;exact(((q_ hw).app ((q9 hP).app ((kj (m:= [34]) rfl).app (uK hc hS)))) c h).2
 have s1:=s.step;rw[Int.zero_add]at s1;have s2:=R8 (acc:= []++P.map da) hc hS s1.step;have s3:aD T _ (41:: [93]):= (s1.step.one.step.one).step;have e:([]++P.map da)++da cur::S.map da= (P++cur::S).map da:=by simp
 rw[e]at s2;have hlen:=s3.len;rw[show ((dO wd).length:Int)+((P.map cq).flatten.length:Nat)+1+(cur.flatten.length:Nat)+1+((S.map cB).flatten.length:Nat)= ((dO wd).length:Int)+((P.map cq).flatten.length:Nat)+((cur.flatten.length+2+(S.map cB).flatten.length:Nat):Int) by lia]at s3 hlen
 have hR:=hrs T _ _ (hT.trans rfl) (Cc hP s1 s2) λ _=>⟨aD.starts (w:= [41]) s3,aD.starts (w:= [93]) (t:= []) s3.one,by rw[hlen];rfl,by show ((P++cur::S).map da).length<=_;rw[dq];lia⟩
 obtain⟨res,VA,TG,VB⟩:∃res,ff T o k (1+(wd.length:Nat)) res/\res.ok=W8/\res.names= (P++cur::S).map da:=⟨_,hR,rfl,rfl⟩;refine⟨o,ho, .inr ⟨Ur,k,1+(wd.length:Nat),res,bN TG ?_⟩⟩;revert ho;refine fz (λ zr=> ?_) (λ zr=> ?_)
 ·subst zr
  exact .inl ⟨VA,rfl,VB⟩
 ·subst zr
  exact .inr ⟨VA,rfl,VB⟩
theorem uM(hs:aD l a (T++tw))(h1:SE l a ⟨W8,a+(T.length:Nat)⟩)(h6:aP l (a+(T.length:Nat))≠60)(h:gL T (Uz (a+(T.length:Nat))) (Uy (a+(T.length:Nat))) (λ s=>D (a+oB s))):gK l a Uz Uy N D:=by
 have e:a_ l a (a+(T.length:Nat))=T:=hs.cut;refine⟨_,h1,bN rfl ⟨h6, ?_⟩⟩;show (∃p,p<(a_ l a (a+(T.length:Nat))).length/\_)∨_;rw[e];exact h
theorem Co(h1:SE l a ⟨W9,q⟩)(h:N q):gK l a Uz Uy N D:=⟨_,h1,cn rfl h⟩
theorem Sf(h:0<=a):oB a=a:=by unfold oB;split <;> lia
theorem Cp(hw:wd∈gr)(hP:∀r∈P,aM r)(hR:∀u∈R,WU u)(h:aD l a (dO wd++((P.map cq).flatten++([34]++(R.flatten++t)))))(hb:q7 t d):SE l a ⟨W9,a+((fL wd P:Nat)+1+(R.flatten.length:Nat)+d)⟩:=by
 have:=Cj hw hP h (R5 hR h.step.step hb);rw[show a+((dO wd).length:Nat)+((P.map cq).flatten.length:Nat)+1+(R.flatten.length:Nat)+d=a+(((fL wd P:Nat):Int)+1+(R.flatten.length:Nat)+d) by show _=a+((((dO wd).length+(P.map cq).flatten.length:Nat):Int)+1+_+d);lia]at this
 exact this
theorem uN(hw:wd∈gr)(hP:∀r∈P,aM r)(hR:∀u∈R,WU u)(hS:∀r∈S,aM r)(hT:T=eR wd P R (34::((S.map cB).flatten++ [41,93])))(h:aD l a (T++tw)):SE l a ⟨W8,a+(T.length:Nat)⟩:=by
 have e:T++tw=dO wd++((P.map cq).flatten++([34]++R.flatten++34::((S.map cB).flatten++41::93::tw))):=by rw[hT];simp[cS]
 rw[e]at h;have:=Cj hw hP h (Sa hR hS h.step.step);rw[show a+((dO wd).length:Nat)+((P.map cq).flatten.length:Nat)+((R.flatten.length+2+(S.map cB).flatten.length+2:Nat):Int)=a+(T.length:Nat) by
  rw[hT];simp only[bD,df,fM];lia]at this
 exact this
end
end Mine.Lake
open PySem.Calls
namespace Mine.Lake
section
variable{l t T U tw tl m wd ld ft:Ln}{a b d pl:Int}{c o:Nat}{P S:List bp}{cur A Dr R:bp}{p:LP}{x:bu}{Uz Uy:Int->List Nat->List (List Nat)->Prop}
theorem mX:ew wd P++(A.flatten++tl)=eR wd P A tl:=by unfold ew eR dO;simp[cS]
theorem Cq:(ew wd P).length=fL wd P+1:=by show ((dO wd++_)++ [34]).length= (dO wd).length+_+1;rw[bD,bD];rfl
def oQ(wy:Int)(S:List bp)(Dr:bp)(tl:Ln):Prop:=
 (wy=0/\∃o,ey o/\tl=o::gv S Dr)∨(wy=1/\tl=92::98::gv S Dr)∨(wy=2/\tl= [])∨(2<wy/\tl=gv S Dr)
theorem Sg(hp:dA p)(h:mN p P S cur sp x.b):∃tl,x.b.ft=ew p.wd P/\x.b.tx=eR p.wd P (cur.take sp.toNat) tl/\x.b.pl= ((fL p.wd P:Nat):Int)+1+((cur.take sp.toNat).flatten.length:Nat)+(if p.wy=1 then 1 else 0)/\oQ p.wy S (cur.drop sp.toNat) tl:=by
 revert h;refine b7 λ tx0 SY htx=> ?_;obtain⟨U1,hah,Ur,fr,hfr,h0⟩:=SY;simp only at U1 hah Ur h0;have e0:tx0=x.b.ft++((cur.take sp.toNat).flatten++(fr++gv S (cur.drop sp.toNat))):=by rw[h0,hah];unfold gv kb;simp[cS]
 have epl:x.b.pl= ((fL p.wd P:Nat):Int)+1+((cur.take sp.toNat).flatten.length:Nat)+(if p.wy=1 then 1 else 0):=by
  rw[Ur,U1,hah];unfold By;rw[bD,Cq];split <;> rfl
 have hw:=hp.1;revert hfr;refine du λ f1 f2 f3=> ?_;have:p.wy=0∨p.wy=1∨p.wy=2∨2<p.wy:=by lia
 revert this;refine gj (λ e=> ?_) (λ e=> ?_) (λ e=> ?_) (λ e=> ?_)
 ·refine aj (f1 e) λ o SY ho=> ?_
  subst SY;exact⟨_,U1,by rw[htx,if_neg (by lia),e0,U1,mX];rfl,epl, .inl ⟨e,o,ho,rfl⟩⟩
 ·obtain rfl:=f2 e
  exact⟨_,U1,by rw[htx,if_neg (by lia),e0,U1,mX];rfl,epl, .inr (.inl ⟨e,rfl⟩)⟩
 ·exact⟨[],U1,by rw[htx,if_pos e,←mX,List.append_nil,U1,hah],epl, .inr (.inr (.inl ⟨e,rfl⟩))⟩
 ·obtain rfl:=f3 (by exact Int.le_of_lt ‹_›)
  exact⟨_,U1,by rw[htx,if_neg (by exact Int.ne_of_gt ‹_›),e0,U1,mX];rfl,epl, .inr (.inr (.inr ⟨e,rfl⟩))⟩
theorem Sh:∃t,eR wd P A tl=91::t:=⟨_,rfl⟩
theorem Si(hD:aM Dr)(hS:∀r∈S,aM r)(hn:S.length<=2):(gv S Dr).length<=40:=by
 have h1:=Rx hS;have h2:=hD.len.2.1;unfold gv;simp only[bD,df,fM];lia
theorem Sj(hD:aM Dr)(hS:∀r∈S,aM r)(hn:S.length<=2)(h:oQ wy S Dr tl):tl.length<=50/\∀c∈tl,c<256:=by
 have h1:=Si hD hS hn;have h2:∀c∈gv S Dr,c<256:=λ c hc=>by have:=uK hD hS c hc;lia
 revert h;refine gj (λ zr=> ?_) (λ zr=> ?_) (λ zr=> ?_) (λ zr=> ?_)
 ·revert zr
  refine jK λ _ o ho Tp=> ?_;subst Tp;refine⟨by rw[df];lia,λ c hc=> ?_⟩
  refine c_ (bR.mp hc) (λ zr=> ?_) (λ hc=> ?_)
  ·subst zr
   unfold ey at ho;lia
  ·exact h2 c hc
 ·revert zr
  refine bF λ _ SY=> ?_;subst SY;refine⟨by rw[df,df];lia,λ c hc=> ?_⟩
  refine c_ (bR.mp hc) (λ zr=> ?_) (λ hc=> ?_)
  ·subst zr
   decide
  ·refine c_ (bR.mp hc) (λ zr=> ?_) (λ hc=> ?_)
   ·subst zr
    decide
   ·exact h2 c hc
 ·revert zr
  refine bF λ _ SY=> ?_;subst SY;exact⟨by decide,λ c hc=>nomatch hc⟩
 ·revert zr
  refine bF λ _ SY=> ?_;subst SY;exact⟨by lia,h2⟩
theorem Cr(hw:wd∈gr)(hP:∀r∈P,aM r)(hA:aM A){f:Nat->Prop}(hf:∀c,32<=c->c<=126->f c)(h:∀c∈tl,f c):∀c∈eR wd P A tl,f c:=λ c hc=>by
 refine c_ (bV.mp hc) (λ hc=> ?_) (λ hc=> ?_)
 ·exact hf c (q_ hw c hc).1 (q_ hw c hc).2
 ·refine c_ (bV.mp hc) (λ hc=> ?_) (λ hc=> ?_)
  ·exact hf c (q9 hP c hc).1 (q9 hP c hc).2
  ·refine c_ (bR.mp hc) (λ zr=> ?_) (λ hc=> ?_)
   ·subst zr
    exact hf _ (by decide) (by decide)
   ·refine c_ (bV.mp hc) (λ hc=> ?_) (λ hc=> ?_)
    ·exact hf c (mW hA c hc).1 (mW hA c hc).2
    ·exact h c hc
theorem Sk(hp:dA p)(hP:∀r∈P,aM r)(hn:P.length<=2)(hA:aM A)(h:tl.length<=50):(eR p.wd P A tl).length<=400000:=by
 rw[←mX,bD,bD];have:=uG hp hP hn;have:=hA.len.2.1;lia
noncomputable abbrev gw(wy:Int):Int:=if wy=1 then 1 else 0
theorem Cs(h:oQ wy S Dr tl)(h3:wy<3):q5 tl (gw wy):=by
 revert h;refine gj (λ zr=> ?_) (λ zr=> ?_) (λ zr=> ?_) (λ zr=> ?_)
 ·revert zr
  refine jK λ Tj o ho Tp=> ?_;subst Tj;subst Tp;exact .inr (.inl ⟨_,_,rfl,by unfold ey at ho;lia,rfl⟩)
 ·revert zr
  refine bF λ Tj SY=> ?_;subst Tj;subst SY;exact .inr (.inr ⟨_,_,rfl,by decide,by decide,rfl⟩)
 ·revert zr
  refine bF λ Tj SY=> ?_;subst Tj;subst SY;exact .inl ⟨rfl,rfl⟩
 ·revert zr
  refine bF λ h SY=> ?_;subst SY;lia
theorem Cu(hw:wd∈gr)(hP:∀r∈P,aM r)(hA:aM A)(hD:aM Dr)(hS:∀r∈S,aM r)(h:oQ wy S Dr tl)(h3:wy<3):ke (eR wd P A tl) ((fL wd P:Nat)+1+(A.flatten.length:Nat)+gw wy):=by
 have hb:=Cs h h3;have ht:=uK hD hS;have go:(∀c∈tl,c<=126)->ke (eR wd P A tl) ((fL wd P:Nat)+1+(A.flatten.length:Nat)+gw wy):=λ hc=>Sb hw hP hA (Cr hw hP hA (λ _ _ h=>h) hc) hb;revert h;refine gj (λ zr=> ?_) (λ zr=> ?_) (λ zr=> ?_) (λ zr=> ?_)
 ·revert zr
  refine jK λ Tj o ho Tp=> ?_;subst Tj;subst Tp
  by_cases h126:126<o
  ·have:=Sd (wd:=wd) (P:=P) (A:=A) (t:=gv S Dr) hw hP hA h126
   rw[show gw 0=0 from rfl,gf];exact this
  ·refine go λ c hc=> ?_
   refine c_ (bR.mp hc) (λ zr=> ?_) (λ hc=> ?_)
   ·subst zr
    exact jF ‹_›
   ·exact(ht c hc).2
 ·revert zr
  refine bF λ Tj SY=> ?_;subst Tj;subst SY;refine go λ c hc=> ?_;refine c_ (bR.mp hc) (λ zr=> ?_) (λ hc=> ?_)
  ·subst zr
   decide
  ·refine c_ (bR.mp hc) (λ zr=> ?_) (λ hc=> ?_)
   ·subst zr
    decide
   ·exact(ht c hc).2
 ·revert zr
  refine bF λ Tj SY=> ?_;subst Tj;subst SY;exact go λ c hc=>nomatch hc
 ·revert zr
  refine bF λ h SY=> ?_;subst SY
  omega
theorem Cw(hw:wd∈gr)(hP:∀r∈P,aM r)(hA:aM A)(hD:aM Dr)(hS:∀r∈S,aM r)(h:oQ wy S Dr tl)(h3:wy<3)(hs:aD l a (eR wd P A tl++tw))(Wz:tw= []∨tw= [41]):
  gK l a Uz Uy (λ q=>q=a+((fL wd P:Nat)+1+(A.flatten.length:Nat)+gw wy+(if wy=2/\tw= [41] then 1 else 0))) (λ q=>q=a+((fL wd P:Nat)+1+(A.flatten.length:Nat)+gw wy+(if wy=2/\tw= [41] then 1 else 0))):=by
 have hrs:=Cu hw hP hA hD hS h h3;have T_:aD l a (dO wd++((P.map cq).flatten++([34]++(A.flatten++(tl++tw))))):=by simpa[cS] using hs
 have out:∀d,q7 (tl++tw) d->d=gw wy+(if wy=2/\tw= [41] then 1 else 0)->gK l a Uz Uy (λ q=>q=a+((fL wd P:Nat)+1+(A.flatten.length:Nat)+gw wy+(if wy=2/\tw= [41] then 1 else 0))) (λ q=>q=a+((fL wd P:Nat)+1+(A.flatten.length:Nat)+gw wy+(if wy=2/\tw= [41] then 1 else 0))):=λ d hb hd=>
  Co (Cp hw hP (ki hA) T_ hb) (by rw[hd];lia)
 revert h;refine gj (λ zr=> ?_) (λ zr=> ?_) (λ zr=> ?_) (λ zr=> ?_)
 ·revert zr
  refine jK λ Tj o ho Tp=> ?_;subst Tj;subst Tp
  by_cases hq:o=0∨127<o∨o=13∨o=10
  ·exact out 0 (.inr (.inl ⟨_,_,rfl,hq,rfl⟩)) rfl
  ·have hR:∀u∈A++ [o]::Dr,WU u:=λ u hu=>by
    refine c_ (bV.mp hu) (λ hu=> ?_) (λ hu=> ?_)
    ·exact ki hA u hu
    ·refine c_ (bR.mp hu) (λ zr=> ?_) (λ hu=> ?_)
     ·subst zr
      exact .inl ⟨o,rfl,by unfold ey at ho;lia,by unfold ey at ho;lia,by lia,by unfold ey at ho;lia,by lia,by lia⟩
     ·exact ki hD u hu
   have hT:eR wd P A (o::gv S Dr)=eR wd P (A++ [o]::Dr) (34::((S.map cB).flatten++ [41,93])):=by unfold gv;simp[cS]
   have hse:=uN hw hP hR hS hT hs;have hs2:=hs.step;refine uM hs hse ?_ (gL.mono hrs (λ _ _ h=>h.elim) (λ _ _ h=>h.elim) λ s hs=> ?_)
   ·revert Wz
    refine fz (λ zr=> ?_) (λ zr=> ?_)
    ·subst zr
     show aq _ _ _ _≠60;rw[hs2.pkn];decide
    ·subst zr
     show aq _ _ _ _≠60;rw[hs2.pk];decide
   ·rw[hs,Sf (by have:gw 0=0:=rfl;exact eV _),if_neg (by simp),gf]
 ·revert zr
  refine bF λ Tj SY=> ?_;subst Tj;subst SY;exact out 1 (.inr (.inr ⟨_,_,rfl,by decide,by decide,rfl⟩)) rfl
 ·revert zr
  refine bF λ Tj SY=> ?_;subst Tj;subst SY;revert Wz;refine fz (λ zr=> ?_) (λ zr=> ?_)
  ·subst zr
   exact out 0 (.inl ⟨rfl,rfl⟩) rfl
  ·subst zr
   have hR:∀u∈A++ [[41]],WU u:=λ u hu=>by
    refine c_ (bV.mp hu) (λ hu=> ?_) (λ hu=> ?_)
    ·exact ki hA u hu
    ·rw[dI.mp hu];exact .inl ⟨41,rfl,by decide,by decide,by decide,by decide,by decide,by decide⟩
   have hs3:aD l a (dO wd++((P.map cq).flatten++([34]++((A++ [[41]]).flatten++ [])))):=by simpa[cS] using hs
   refine Co (Cp hw hP hR hs3 (.inl ⟨rfl,rfl⟩)) ?_;rw[show (A++ [[41]]:bp).flatten.length=A.flatten.length+1 by simp,if_pos ⟨rfl,rfl⟩,show gw 2=0 from rfl];rfl
 ·revert zr
  refine bF λ h SY=> ?_;subst SY
  omega
end
theorem Sl:jB:=by
 rintro p x hp ⟨P,S,cur,sp,hrs,hn,hs,hs2,hb,VB,hwh⟩
 refine rm (Sg hp hb) λ tl U1 htx Ur hcase=> ?_;refine cE (B8 hrs) λ hP hc hS=> ?_;refine aI (B7 hn) λ n1 n2=> ?_;have hA:=hc.take (n:=sp.toNat);have hD:=hc.drop (n:=sp.toNat);have hcat:cur.flatten= (cur.take sp.toNat).flatten++(cur.drop sp.toNat).flatten:=by rw[←List.flatten_append,List.take_append_drop]
 generalize cur.take sp.toNat=A at*
 generalize cur.drop sp.toNat=Dr at*
 have hw:=hp.2.2.2.2.1;have hl:=hp.2.2.2.2.2.1;refine aI (Sj hD hS n2 hcase) λ c1 c2=> ?_;have hfl:=uG hp hP n1;have hlen:x.nm.length=P.length+(S.length+1):=by rw[VB,dq,bD,df]
 have hsx:aD x.b.tx (x.b.ft.length:Nat) (A.flatten++tl):=by rw[htx,U1,←mX];exact aD.mk' _ _
 have hftl:(x.b.ft.length:Int)= ((fL p.wd P:Nat):Int)+1:=by rw[U1,Cq];rfl
 refine cv (Sh (wd:=p.wd) (P:=P) (A:=A) (tl:=tl)) λ T' hT'=> ?_;have s0:∀tw,aD (p.ld++x.b.tx++tw) 0 (p.ld++91::(T'++tw)):=λ tw=>by
  rw[htx,hT',cS];exact aD.all _
 have s1:∀tw,aD (p.ld++x.b.tx++tw) (p.ld.length:Nat) (eR p.wd P A tl++tw):=λ tw=>by
  rw[htx,cS];exact aD.mk' _ _
 refine⟨⟨by rw[htx];exact Sk hp hP n1 hA c1,by rw[htx];exact Cr hw hP hA (λ c _ h=>by lia) c2,by rw[U1];grind,by lia⟩,by lia,by lia,λ h3=> ?_,λ h3=> ?_⟩
 ·refine⟨?_, ?_,λ hb=> ?_,λ hb=> ?_⟩
  ·refine aI (B' hA.2 hsx (Cs hcase h3)) λ q1 q2=> ?_
   exact⟨q1,by rw[q2,hftl,Ur]⟩
  ·rw[htx,Ur];exact Cu hw hP hA hD hS hcase h3
  ·have e:((p.ld.length:Nat):Int)+x.b.pl+(if p.wy=2 then 1 else 0)= (p.ld.length:Nat)+((fL p.wd P:Nat)+1+(A.flatten.length:Nat)+gw p.wy+(if p.wy=2/\([41]:Ln)= [41] then 1 else 0)):=by
    have e2:(if p.wy=2/\([41]:Ln)= [41] then(1:Int) else 0)=if p.wy=2 then 1 else 0:=by
     by_cases h:p.wy=2
     ·rw[if_pos h,if_pos ⟨h,rfl⟩]
     ·rw[if_neg h,if_neg (λ q=>h q.1)]
    rw[Ur,e2];show _+(_+gw p.wy)+_=_;exact lO _ _ _
   rw[e];exact Cn hl hb (s0 [41]) λ _=>Cw hw hP hA hD hS hcase h3 (s1 [41]) (.inr rfl)
  ·have e:((p.ld.length:Nat):Int)+x.b.pl+0= (p.ld.length:Nat)+((fL p.wd P:Nat)+1+(A.flatten.length:Nat)+gw p.wy+(if p.wy=2/\([]:Ln)= [41] then 1 else 0)):=by
    rw[Ur,if_neg (c:=p.wy=2/\([]:Ln)= [41]) (λ h=>nomatch h.2)]
    show _+(_+gw p.wy)+_=_;exact lO _ _ _
   rw[e];exact Cm hl hb (s0 []) λ _=>Cw hw hP hA hD hS hcase h3 (s1 []) (.inl rfl)
 ·have htl:tl=gv S Dr:=by
   revert hcase;refine gj (λ zr=> ?_) (λ zr=> ?_) (λ zr=> ?_) (λ zr=> ?_)
   ·revert zr
    refine bF λ h _=> ?_;lia
   ·revert zr
    refine bF λ h _=> ?_;lia
   ·revert zr
    refine bF λ h _=> ?_;lia
   ·revert zr
    refine bF λ _ h=> ?_;exact h
  have hT:x.b.tx=eR p.wd P cur (34::((S.map cB).flatten++ [41,93])):=by rw[htx,htl];unfold eR;rw[hcat];unfold gv;simp[cS]
  have hq:aD x.b.tx (x.b.ft.length:Nat) (cur.flatten++34::((S.map cB).flatten++ [41,93])):=by
   rw[htl]at hsx;unfold gv at hsx;rw[hcat];rw[←cS]at hsx;exact hsx
  have hq:=q4 hc.2 hq;refine aj (Se hw hP hc hS hT hn) λ o ho hr=> ?_;rw[←VB]at hr;have hnw:x.nm.getD (bH x.wh x.nm.length) []=da cur:=by
   rw[hwh,show bH ((P.length:Nat):Int) x.nm.length=P.length from rfl,VB,eJ,dX,kl (by rw[dq];exact ba _),dq,Nat.sub_self];rfl
  have s2:∀tw,aD (p.ld++x.b.tx++tw) (p.ld.length:Nat) (x.b.tx++tw):=λ tw=>by rw[cS];exact aD.mk' _ _
  refine⟨⟨by rw[hq],by rw[hq,hnw]⟩,o,ho,hr,λ hb=> ?_,λ hb=> ?_⟩
  ·refine Cn hl hb (s0 [41]) λ _=>uM (s2 [41]) (uN hw hP (ki hc) hS hT (s2 [41])) ?_ (gL.mono hr (λ _ _ h=>⟨?_,h⟩) (λ _ _ h=>⟨?_,h⟩) λ _ h=>h)
   ·show aq _ _ _ _≠60
    rw[((s2 [41]).step).pk];decide
   ·exact aD.st (w:= [41]) (t:= []) (s2 [41]).step
   ·exact aD.st (w:= [41]) (t:= []) (s2 [41]).step
  ·refine Cm hl hb (s0 []) λ _=>uM (s2 []) (uN hw hP (ki hc) hS hT (s2 [])) ?_ (gL.mono hr (λ _ _ h=>h) (λ _ _ h=>h) λ _ h=>h)
   show aq _ _ _ _≠60;rw[((s2 []).step).pkn];decide
section
open PySem.Calls
theorem Sm(K:(K0 P).In h)(hl:∀a o,(K0 P).lookup a=W6 o->a ∉ l):(K0 P).In (hideAll h l):=λ a o e=>jm _ (K a o e) (hl a o e)
theorem Sn(n:h.Ns a m)(hl:a ∉ l):(hideAll h l).Ns a m:=let ⟨o,es,ep,e,r⟩:=n;⟨o,es,ep,jm _ e hl,r⟩
theorem So(h:IntsAre vs ns):bk [] (ns.map .num) vs:=by
 induction h with
 | nil=>exact .nil
 | cons i t _ ih=>exact .cons ⟨t,rfl⟩ ih
theorem Sp(args:List WData):row0.claim.post args (.bool W8) args=W8:=by
 kernel_rfl
theorem Sq{α β:Type}{r:α->β->Prop}{x y z:α}{l:List α}{os:List β}(h:aW r (x::y::z::l) os):∃a b c t,os=a::b::c::t/\r x a/\r y b/\r z c:=by
 obtain⟨a,t1,rfl,h1,h⟩:=h.inv_cons;obtain⟨b,t2,rfl,h2,h⟩:=h.inv_cons;refine dY h.inv_cons λ c t3 zq2 h3 h=> ?_;subst zq2;exact⟨a,b,c,t3,rfl,h1,h2,h3⟩
noncomputable def ra(s:aw)(a:ak):Dx:={ dp:=1+claimMargin,un:=4,gd:=W6 [],hdl:=W7,outer:= [],g:=hideAll s.heap [585,617,a],base:=hideAll s.heap [585,617,a],fro:= [],gens:=s.gens,drawn:=s.drawn,os:=s.os }
section
variable{w:aQ}{mg mb:Tm}{Th s₁ s':aw}{a:ak}{Uq:Lv}{ns:List Int}
theorem Sr{cl:ab->Option ak}{h:bS}{vals:Lv}{d:WData}{as:Ld}(hr:ReadsAllW [] cl h vals [d] as):∃v as1,vals= [v]/\ReadsW [] cl h v d as1/\as=as1++ []:=by
 cases hr with
 | cons r1 r2=>cases r2;exact⟨_,_,rfl,r1,rfl⟩
theorem Ss{P:fm}{h:bS}{v:az}{ds:List WData}(hw:WellAll P h [v] [.list ds]):∃(a:ak) (vs:Lv),v= .ref a/\h.get? a=W6 (listOf vs.toArray 0):=by
 cases hw with
 | cons w1 w2=>cases w1 with
  | @list _ _ _ ho _=>exact⟨_,_,rfl,ho⟩
theorem Su{cl:ab->Option ak}{h:bS}{ds:List WData}{as:Ld}(r:ReadsW [] cl h (.ref a) (.list ds) as)(ho:h.get? a=W6 (listOf Uq.toArray 0)):a∈as/\∃as',ReadsAllW [] cl h Uq ds as':=by
 cases r with
 | list ho2 VE UI US=>
 rw[ho]at ho2;injection ho2 with zq;subst zq
 injection UI with zq;subst zq
 exact⟨by simp,_,US⟩
theorem Sv{args:List WData}{vals:Lv}{as:Ld}{h₀:bS}(TI:row0.claim.pre args=W8)(hr:ReadsAllW [] (classAt h₀) s₁.heap vals args as)(U0:WellAll w.params s₁.heap vals args)(U_:∀a∈as,h₀.objs.size<=a):
  ∃ns a Uq,args= [.list (ns.map .int)]/\ns.length<=63/\vals= [.ref a]/\s₁.heap.get? a=W6 (listOf Uq.toArray 0)/\IntsAre Uq ns/\h₀.objs.size<=a:=by
 refine aj (FK TI) λ ns SY hlen=> ?_;subst SY;refine dY (Sr hr) λ v as1 e r1 e1=> ?_;subst e;refine cY (Ss U0) λ a vs e ho=> ?_;subst e;refine rj (Su r1 ho) λ hm as' US=> ?_;exact⟨ns,a,vs,rfl,hlen,rfl,ho,by simpa using FL US,U_ a (e1 ▸ bU _ hm)⟩
@[elab_as_elim] theorem rb{P:ak->Prop}(h1:P 585)(h2:P 617)(h3:P a){b:ak}(h:b∈ [585,617,a]):P b:=by
 rcases bR.mp h with rfl | h
 ·exact h1
 ·rcases bR.mp h with rfl | h
  ·exact h2
  ·rw[dI.mp h];exact h3
theorem Sw(G:Ground q0 jN [] (λ _ _=>True) w Th mg mb s₁.heap)(Y:lV w s₁.heap)(hK:∀b ob,(K0 w.params).lookup b=W6 ob->b ∉ [585,617,a])(ho:s₁.heap.get? a=W6 (listOf Uq.toArray 0)):jc w mg mb 17 (ra s₁ a):=by
 have out:∀{b:ak} {ob:Obj},s₁.heap.get? b=W6 ob->(∀v,ob.data≠ .fields v)->(∀v n,ob.data≠ .seq v n)->b ∉ [585,617,a]:=λ {b ob} e h1 h2 hm=>
  rb (P:=λ b=>s₁.heap.get? b=W6 ob->False) (λ e=>by rw[Y.2.1]at e;injection e with zq;subst zq;exact h1 _ rfl) (λ e=>by rw[Y.2.2]at e;injection e with zq;subst zq;exact h1 _ rfl) (λ e=>by rw[ho]at e;injection e with zq;subst zq;exact h2 _ _ rfl) hm e
 have TY:∀{b:ak} {m:Tm},s₁.heap.Ns b m->(hideAll s₁.heap [585,617,a]).Ns b m:=λ n=>Sn n (by
  revert n;refine gi λ ob es ep e hd _=> ?_;exact out e (λ v q=>by rw[hd]at q;contradiction) λ v n q=>by rw[hd]at q;contradiction)
 have T:=topRead_of G.T;refine⟨Sm Y.1 hK,⟨TY T.g,TY T.b, ?_,T.builtins,T.free⟩,λ _ _ e=>e,by show 1+claimMargin+4*17+5<recursionLimit;decide+kernel,by show 4+40*17+40<cLine;decide+kernel,⟨[], [],rfl, .nil⟩, ?_⟩
 ·refine aj T.nolimit λ mc n e=> ?_
  exact⟨mc,TY n,e⟩
 ·refine u7 G.T.bmain λ bm ob b1 b2 b3 b4 b5 b6=> ?_
  exact⟨bm,ob,b1,b2,jm _ b3 (out b3 (λ v q=>by rw[b6]at q;contradiction) λ v n q=>by rw[b6]at q;contradiction),b4,b5,b6⟩
theorem Sx(Y585:s₁.heap.get? 585=W6 (eM #[]))(Y617:s₁.heap.get? 617=W6 (eM #[]))(ho:s₁.heap.get? a=W6 (listOf Uq.toArray 0))(hints:IntsAre Uq ns)(ne1:a≠585)(ne2:a≠617):gZ (ra s₁ a) [585,617,a] [.tab [], .tab [], .lstR ns (listOf Uq.toArray 0)] s₁:=by
 refine⟨[eM #[],eM #[],listOf Uq.toArray 0], [],rfl,rfl,rfl,λ _ _ e=>of_hideAll _ e,λ p hp=> ?_,rfl, ?_, ?_, .nil⟩
 ·have hid:∀b,b∈([585,617,a]:Ld)->(hideAll s₁.heap [585,617,a]).get? b=W7:=λ b h=>hideAll_none _ h
  have hp:p∈ [((585:ak),eM #[]),(617,eM #[]),(a,listOf Uq.toArray 0)]:=hp;rcases bR.mp hp with rfl | hp
  ·exact⟨Y585,hid _ (by simp)⟩
  ·rcases bR.mp hp with rfl | hp
   ·exact⟨Y617,hid _ (by simp)⟩
   ·rw[dI.mp hp]
    exact⟨ho,hid _ (by simp)⟩
 ·exact .cons ⟨[],rfl, .nil⟩ (.cons ⟨[],rfl, .nil⟩ (.cons ⟨rfl,Uq.toArray,0,rfl,by simpa using So hints⟩ .nil))
 ·show List.Nodup [585,617,a]
  simp[Ne.symm ne1,Ne.symm ne2]
theorem Sy{v:az}{ads':Ld}{cl:ab->Option ak}{mean:ExcName->Option az}(Y:lV w s₁.heap)(hg:s₁.gens= #[])(ho:s₁.heap.get? a=W6 (listOf Uq.toArray 0))(hp: [585,617,a] <+:ads')(L:gZ (ra s₁ a) ads' (.tab x:: .tab y:: .lstR ns (listOf Uq.toArray 0)::r) s')(hc:aU ads' (.bo W8) v):
  GoodWG row0.claim cl mean [.list (ns.map .int)] s₁ (.ok (.ret v)) s':=by
 obtain⟨t,hp⟩:=hp;obtain⟨os',fr',L⟩:=L;refine vc (Sq L.objs) λ o1 o2 o3 ot zq4 zq5 zq6 zq7=> ?_;subst zq4;obtain⟨v1,rfl,_⟩:=zq5;obtain⟨v2,rfl,_⟩:=zq6;obtain⟨rfl,_⟩:=zq7;subst hp;have g1:s'.heap.get? 585=W6 (eM v1.toArray):= (L.N (585,_) (bU _ (by simp))).1
 have g2:s'.heap.get? 617=W6 (eM v2.toArray):= (L.N (617,_) (bU _ (by simp))).1
 have g3:s'.heap.get? a=W6 (listOf Uq.toArray 0):= (L.N (a,listOf Uq.toArray 0) (bU _ (.tail _ (.tail _ (.head _))))).1;have st:∀b o,(hideAll s₁.heap [585,617,a]).get? b=W6 o->s'.heap.get? b=W6 o:=L.stays;have hos:=L.hos;have hgens:=L.hgens.trans hg
 clear L
 obtain rfl:v= .bool W8:=hc;refine⟨.inl ⟨.bool W8, .bool W8, [],rfl,λ _=>rfl, .bool W8,Sp _,λ _=>⟨.nil,λ _ h=>nomatch h⟩⟩,⟨λ b ob e=> ?_,λ b ob e=> ?_⟩,hos,AllBare.of_eq hgens⟩
 ·by_cases e1:b∈ [585,617,a]
  ·revert e
   refine rb (λ e=> ?_) (λ e=> ?_) (λ e=> ?_) e1
   ·refine vd (yF Y.1) λ oc cs _ _ _ _ _ _ _ c1 c2 c3 c4 _=> ?_
    rw[Y.2.1]at e;(injection e with zq;subst zq)
    exact .inr (.inl ⟨⟨587,oc,cs,c1,c2,c3,c4⟩,rfl, #[],v1.toArray,rfl,by rw[g1];simp⟩)
   ·refine vd (yE Y.1) λ oc cs _ _ _ _ _ _ _ c1 c2 c3 c4 _=> ?_
    rw[Y.2.2]at e;(injection e with zq;subst zq)
    exact .inr (.inl ⟨⟨619,oc,cs,c1,c2,c3,c4⟩,rfl, #[],v2.toArray,rfl,by rw[g2];simp⟩)
   ·rw[ho]at e;(injection e with zq;subst zq)
    exact .inl g3
  ·exact .inl (st _ _ (jm _ e e1))
 ·by_cases e1:b∈ [585,617,a]
  ·exact rb (P:=λ b=>∃o,s'.heap.get? b=W6 o) ⟨_,g1⟩ ⟨_,g2⟩ ⟨_,g3⟩ e1
  ·exact⟨_,st _ _ (jm _ e e1)⟩
theorem Sz{args:List WData}{vals:Lv}{as:Ld}(G:Ground q0 jN [] (λ _ _=>True) w Th mg mb s₁.heap)(Y:lV w s₁.heap)(hg:s₁.gens= #[])
  (TI:row0.claim.pre args=W8) (hr:ReadsAllW [] (classAt Th.heap) s₁.heap vals args as) (U0:WellAll w.params s₁.heap vals args) (U_:∀a∈as,Th.heap.objs.size<=a) (Y0:lV w Th.heap):
  ai (ag pw w) callerA (call (.ref 620) vals) (λ v s'=>GoodWG row0.claim (classAt Th.heap) (ExcName.means Th.heap) args s₁ (.ok (.ret v)) s')
    (λ e s'=>GoodWG row0.claim (classAt Th.heap) (ExcName.means Th.heap) args s₁ (.error e) s') s₁:=by
 have I:=Sv TI hr U0 U_
 clear TI hr U0 U_
 revert I;refine o_ λ ns a Uq SY hlen zq2 ho hints hsz=> ?_;subst SY;subst zq2;have ne1:a≠585:=λ e=>absurd (ed Y0.2.1) (ij.mpr (e ▸ hsz));have ne2:a≠617:=λ e=>absurd (ed Y0.2.2) (ij.mpr (e ▸ hsz));have hK:∀b ob,(K0 w.params).lookup b=W6 ob->b ∉ [585,617,a]:=λ b ob e hm=>
  rb (P:=λ b=>(K0 w.params).lookup b=W6 ob->False) (λ e=>by rw[show (K0 w.params).lookup 585=W7 by kernel_rfl]at e;contradiction) (λ e=>by rw[show (K0 w.params).lookup 617=W7 by kernel_rfl]at e;contradiction)
   (λ e=>absurd (ed (Y0.1 _ _ e)) (ij.mpr hsz)) hm e
 have S:=RI (w:=w) (mg:=mg) (mb:=mb) Sl (ra s₁ a) [585,617,a] _ [.ob 2] [.ref a] s₁ (λ v os=>v= .bo W8/\∃x y r,os= .tab x:: .tab y:: .lstR ns (listOf Uq.toArray 0)::r) (λ _ _=>False) (Sw G Y hK ho) (λ _=>rfl)
  (λ i b e=>by
   match i,e with
   | 0,e=>exact e
   | 1,e=>exact e
   | _+2,e=>contradiction) (Sx Y.2.1 Y.2.2 ho hints ne1 ne2) (.cons ⟨a,rfl,rfl⟩ .nil) (by show (hideAll _ _).objs.size<=_;rw[hideAll_size];exact ba _)
  (show _ from⟨(ns,listOf Uq.toArray 0),rfl,hlen,λ x y r=>⟨rfl,x,y,r,rfl⟩⟩)
 refine kF (iI S λ r s' hr=> ?_);induction r with
 | error e=>
  revert hr;refine kE λ _ _ _ _ _ _ _ hf=> ?_;exact hf.elim
 | ok fl=>
 induction fl with
 | brk=>exact hr.elim
 | cont=>exact hr.elim
 | next=>exact hr.elim
 | ret v=>
  revert hr;refine CI λ ads' objs' av Tp zq4 hc zq6 x y r zq10=> ?_;subst zq6;subst zq10;exact Sy Y hg ho Tp zq4 hc
end
end
theorem SA:Challenge.rw_sa0550_01.wellSaid=W8:=by kernel_rfl
noncomputable def fP(s:cD):Pos:=if h:s.ctorIdx=0 then uR s h λ _ _ _ _ _ _ _ _ _ p=>p else default
noncomputable def d0:DefRec:={ name:=Str.ofString "law",params:=fA (tp 71),body:=fB (tp 71),scope:=fS (tp 71),pos:=fP (tp 71) }
theorem SB:defOf q0 row0.name=W6 (d0, []):=by kernel_rfl
theorem SC:row0.prog.theDef row0.name=W6 (d0.params,d0.body,d0.scope):=by kernel_rfl
theorem SD:kwWritten? d0.params.kwonlyargs d0.params.kw_defaults=W6 []:=by kernel_rfl
theorem SH:(chainsOk q0 && opensWell row0.prog && (frees row0.toRowW && row0.within.isEmpty))=W8:=by kernel_rfl
theorem SI(w:aQ)(s:aw)(h:wc s=wg w):lV w s.heap:=by
 refine aI (Prod.mk.inj h) λ h1 h2=> ?_;refine aI (Prod.mk.inj h2) λ h2 _=> ?_;simp only[eW,List.map_nil,List.cons.injEq]at h2;exact⟨Frag.in_of (DY _) h1,h2.1,h2.2.1⟩
set_option maxHeartbeats 8000000 in
theorem SJ:row0.prog.bare:=⟨rfl,rfl,rfl,rfl,rfl,by decide+kernel⟩
theorem SK:row0.toRowW.promised:=by w_witness2
theorem SL:(!row0.writes || row0.records.isEmpty)=W8:=rfl
theorem SM:∀{w:aQ} {Th s₁:aw} {mg mb:Tm},Ground q0 jN row0.records (λ _ _=>True) w Th mg mb s₁.heap->lV w s₁.heap->mg row0.name=W6 (.ref 620):=λ {w Th s₁ mg mb} G Y=>by
 refine lR G.T.g λ o es ep e hd hk hf=> ?_;have:s₁.heap.get? ie=W6 (o3 w.params):=Y.1 _ _ (by kernel_rfl)
 rw[this]at e;injection e with zq;subst zq
 rw[←hf];have h2:(match (o3 w.params).data with | .dict es _=>nsFind es row0.name | _=>W7)=W6 (.ref 620):=by kernel_rfl
 rw[hd]at h2;exact h2
end Mine.Lake
open Mine.Lake
set_option maxHeartbeats 8000000 in
theorem PySem.Challenge.cw_sa0550_01_holds : PySem.Challenge.rw_sa0550_01.Holds := by
 exact holds_law SA λ said=>FJ D_ SI (λ _ _ _ x k=>⟨x.1.keeps k,k _ _ x.2.1,k _ _ x.2.2⟩) SB SC SD Ea SL said SH SJ SK
  λ w Th s₁ mg mb G Y hg args vals as TI _ hr hw U_ Y0=>⟨.ref 620,SM G Y,Sz G Y hg TI hr hw U_ Y0⟩
