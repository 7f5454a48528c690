import PyProof.Rows.All
import Wide.All
import OpenK.AllK
import Wide.FinOn
import Lean
import PySem.Challenge.RW_nz0525_01
set_option Elab.async false
set_option maxRecDepth 100000
set_option linter.all false
set_option maxHeartbeats 0
set_option bootstrap.genMatcherCode false
set_option tactic.hygienic false
set_option genSizeOf false
set_option genInjectivity false
namespace Nz.Internal
open PySem PySem.W PyProof.Rows PySem.Calls
noncomputable def tm(p:Program):Bool:=Fast.tw11788848310118352699 p.main
noncomputable def Nj(p:Program):Bool:=Fast.tw8377067652309620493 p
noncomputable def Nk(p:Program):Bool:=R.allR (Fast.tw18344453789297297638 p) fun n=>!@Fast.tw3471404346716756564 Str (@instBEqOfDecidableEq Str Fast.sDec) Fast.tw14412699480532031325 n
noncomputable def Nm(p:Program):Bool:=Fast.tw8326940854005059898 {strict:=!R.allR (Fast.tw5923862056798008813 p.main.body) (@Fast.tw3471404346716756564 Str (@instBEqOfDecidableEq Str Fast.sDec) Fast.tw17691160309236699985),foot:=none,bare:=R.filterR (Fast.tw13343964577679436407 p p.main.body) [{cps:={toList:=[118,97,114,115]}},{cps:={toList:=[100,105,114]}},{cps:={toList:=[108,111,99,97,108,115]}}]} p.main.body
noncomputable def Nn(p:Program):Bool:=Fast.tw17119622794617984870 p p.main.body fun Z n=>Fast.tw17868728402115742887 n
noncomputable def Np(p:Program):Bool:=(Fast.tw9807087744658564304 p.main.body).isEmpty||Fast.tw12862048085361865435 (Fast.tw9807087744658564304 p.main.body) p.main.body
theorem Y0(p:Program):Fast.tw12908688711261696721 p=(tm p&&Np p&&Nj p&&Nk p&&Nm p&&Nn p):=by kernel_rfl
theorem Y1:tm PySem.Challenge.pw_nz0525_01=true:=by kernel_rfl
theorem Y2:Nj PySem.Challenge.pw_nz0525_01=true:=by kernel_rfl
theorem Y3:Nk PySem.Challenge.pw_nz0525_01=true:=by kernel_rfl
theorem Y4:Nm PySem.Challenge.pw_nz0525_01=true:=by kernel_rfl
theorem Y5:Nn PySem.Challenge.pw_nz0525_01=true:=by kernel_rfl
theorem Y6:Np PySem.Challenge.pw_nz0525_01=true:=by kernel_rfl
theorem adp:Fast.tw12908688711261696721 (Fast.tw2368527892694137696 PySem.Challenge.rw_nz0525_01).prog=true:=by
 show Fast.tw12908688711261696721 PySem.Challenge.pw_nz0525_01=true
 rw[Y0,Y1,Y2,Y3,Y4,Y5,Y6]
 rfl
theorem Y7:PySem.W.Fast.tw9446332074065402090 PySem.Challenge.rw_nz0525_01=true:=by
 unfold Fast.tw9446332074065402090 Fast.tw17960256430627541270 Fast.tw2436336058641802641
 rw[adp]
 kernel_rfl
theorem MF:OpenLaw.wellSaid PySem.Challenge.rw_nz0525_01=true:=by
 have e:@OpenLaw.wellSaid=PySem.W.Fast.tw9446332074065402090:=PySem.W.Fast.te9446332074065402090
 rw[e]
 exact Y7
theorem cps{P:Prop}(h:∀G:Prop,(P->G)->G):P:=h P id
theorem Nq{aH G:Prop}(h:aH)(k:aH->G):G:=k h
theorem bS{aH aK G:Prop}(h:aH/\aK)(k:aH->aK->G):G:=Nq h.2 (k h.1)
theorem fW{aH aK p3 G:Prop}(h:aH/\aK/\p3)(k:aH->aK->p3->G):G:=bS h.2 (k h.1)
theorem Ez{aH aK p3 a4 G:Prop}(h:aH/\aK/\p3/\a4)(k:aH->aK->p3->a4->G):G:=fW h.2 (k h.1)
theorem zF{aH aK p3 a4 bf G:Prop}(h:aH/\aK/\p3/\a4/\bf)(k:aH->aK->p3->a4->bf->G):G:=Ez h.2 (k h.1)
theorem Nr{aH aK p3 a4 bf bq G:Prop}(h:aH/\aK/\p3/\a4/\bf/\bq)(k:aH->aK->p3->a4->bf->bq->G):G:=zF h.2 (k h.1)
theorem Nt{aH aK p3 a4 bf bq bX G:Prop}(h:aH/\aK/\p3/\a4/\bf/\bq/\bX)(k:aH->aK->p3->a4->bf->bq->bX->G):G:=Nr h.2 (k h.1)
theorem Nu{aH aK p3 a4 bf bq bX cU G:Prop}(h:aH/\aK/\p3/\a4/\bf/\bq/\bX/\cU)(k:aH->aK->p3->a4->bf->bq->bX->cU->G):G:=Nt h.2 (k h.1)
theorem aeZ{aH aK p3 a4 bf bq bX cU di G:Prop}(h:aH/\aK/\p3/\a4/\bf/\bq/\bX/\cU/\di)(k:aH->aK->p3->a4->bf->bq->bX->cU->di->G):G:=Nu h.2 (k h.1)
theorem cQ{aG:Type}{aH:aG->Prop}{G:Prop}(h:∃(ad:aG),aH ad)(k:∀(ad:aG),aH ad->G):G:=h.elim fun x h=>Nq h (k x)
theorem aW{aG:Type}{aH aK:aG->Prop}{G:Prop}(h:∃(ad:aG),aH ad/\aK ad)(k:∀(ad:aG),aH ad->aK ad->G):G:=h.elim fun x h=>bS h (k x)
theorem eT{aG:Type}{aH aK p3:aG->Prop}{G:Prop}(h:∃(ad:aG),aH ad/\aK ad/\p3 ad)(k:∀(ad:aG),aH ad->aK ad->p3 ad->G):G:=h.elim fun x h=>fW h (k x)
theorem ro{aG:Type}{aH aK p3 a4:aG->Prop}{G:Prop}(h:∃(ad:aG),aH ad/\aK ad/\p3 ad/\a4 ad)(k:∀(ad:aG),aH ad->aK ad->p3 ad->a4 ad->G):G:=h.elim fun x h=>Ez h (k x)
theorem Nv{aG:Type}{aH aK p3 a4 bf:aG->Prop}{G:Prop}(h:∃(ad:aG),aH ad/\aK ad/\p3 ad/\a4 ad/\bf ad)(k:∀(ad:aG),aH ad->aK ad->p3 ad->a4 ad->bf ad->G):G:=h.elim fun x h=>zF h (k x)
theorem ae0{aG:Type}{aH aK p3 a4 bf bq:aG->Prop}{G:Prop}(h:∃(ad:aG),aH ad/\aK ad/\p3 ad/\a4 ad/\bf ad/\bq ad)(k:∀(ad:aG),aH ad->aK ad->p3 ad->a4 ad->bf ad->bq ad->G):G:=h.elim fun x h=>Nr h (k x)
theorem ph{aG:Type}{aH aK p3 a4 bf bq bX:aG->Prop}{G:Prop}(h:∃(ad:aG),aH ad/\aK ad/\p3 ad/\a4 ad/\bf ad/\bq ad/\bX ad)(k:∀(ad:aG),aH ad->aK ad->p3 ad->a4 ad->bf ad->bq ad->bX ad->G):G:=h.elim fun x h=>Nt h (k x)
theorem Nw{aG:Type}{aH aK p3 a4 bf bq bX cU:aG->Prop}{G:Prop}(h:∃(ad:aG),aH ad/\aK ad/\p3 ad/\a4 ad/\bf ad/\bq ad/\bX ad/\cU ad)(k:∀(ad:aG),aH ad->aK ad->p3 ad->a4 ad->bf ad->bq ad->bX ad->cU ad->G):G:=h.elim fun x h=>Nu h (k x)
theorem EA{aG:Type}{aH aK p3 a4 bf bq bX cU di:aG->Prop}{G:Prop}(h:∃(ad:aG),aH ad/\aK ad/\p3 ad/\a4 ad/\bf ad/\bq ad/\bX ad/\cU ad/\di ad)(k:∀(ad:aG),aH ad->aK ad->p3 ad->a4 ad->bf ad->bq ad->bX ad->cU ad->di ad->G):G:=h.elim fun x h=>aeZ h (k x)
theorem iY{aG aM:Type}{aH:aG->aM->Prop}{G:Prop}(h:∃(ad:aG) (af:aM),aH ad af)(k:∀(ad:aG) (af:aM),aH ad af->G):G:=h.elim fun x h=>cQ h (k x)
theorem dc{aG aM:Type}{aH aK:aG->aM->Prop}{G:Prop}(h:∃(ad:aG) (af:aM),aH ad af/\aK ad af)(k:∀(ad:aG) (af:aM),aH ad af->aK ad af->G):G:=h.elim fun x h=>aW h (k x)
theorem c0{aG aM:Type}{aH aK p3:aG->aM->Prop}{G:Prop}(h:∃(ad:aG) (af:aM),aH ad af/\aK ad af/\p3 ad af)(k:∀(ad:aG) (af:aM),aH ad af->aK ad af->p3 ad af->G):G:=h.elim fun x h=>eT h (k x)
theorem zG{aG aM:Type}{aH aK p3 a4:aG->aM->Prop}{G:Prop}(h:∃(ad:aG) (af:aM),aH ad af/\aK ad af/\p3 ad af/\a4 ad af)(k:∀(ad:aG) (af:aM),aH ad af->aK ad af->p3 ad af->a4 ad af->G):G:=h.elim fun x h=>ro h (k x)
theorem k5{aG aM:Type}{aH aK p3 a4 bf:aG->aM->Prop}{G:Prop}(h:∃(ad:aG) (af:aM),aH ad af/\aK ad af/\p3 ad af/\a4 ad af/\bf ad af)(k:∀(ad:aG) (af:aM),aH ad af->aK ad af->p3 ad af->a4 ad af->bf ad af->G):G:=h.elim fun x h=>Nv h (k x)
theorem EB{aG aM:Type}{aH aK p3 a4 bf bq:aG->aM->Prop}{G:Prop}(h:∃(ad:aG) (af:aM),aH ad af/\aK ad af/\p3 ad af/\a4 ad af/\bf ad af/\bq ad af)(k:∀(ad:aG) (af:aM),aH ad af->aK ad af->p3 ad af->a4 ad af->bf ad af->bq ad af->G):G:=h.elim fun x h=>ae0 h (k x)
theorem Nx{aG aM:Type}{aH aK p3 a4 bf bq bX:aG->aM->Prop}{G:Prop}(h:∃(ad:aG) (af:aM),aH ad af/\aK ad af/\p3 ad af/\a4 ad af/\bf ad af/\bq ad af/\bX ad af)(k:∀(ad:aG) (af:aM),aH ad af->aK ad af->p3 ad af->a4 ad af->bf ad af->bq ad af->bX ad af->G):G:=h.elim fun x h=>ph h (k x)
theorem ae1{aG aM:Type}{aH aK p3 a4 bf bq bX cU di:aG->aM->Prop}{G:Prop}(h:∃(ad:aG) (af:aM),aH ad af/\aK ad af/\p3 ad af/\a4 ad af/\bf ad af/\bq ad af/\bX ad af/\cU ad af/\di ad af)(k:∀(ad:aG) (af:aM),aH ad af->aK ad af->p3 ad af->a4 ad af->bf ad af->bq ad af->bX ad af->cU ad af->di ad af->G):G:=h.elim fun x h=>EA h (k x)
theorem tn{aG aM aV:Type}{aH:aG->aM->aV->Prop}{G:Prop}(h:∃(ad:aG) (af:aM) (ah:aV),aH ad af ah)(k:∀(ad:aG) (af:aM) (ah:aV),aH ad af ah->G):G:=h.elim fun x h=>iY h (k x)
theorem iJ{aG aM aV:Type}{aH aK:aG->aM->aV->Prop}{G:Prop}(h:∃(ad:aG) (af:aM) (ah:aV),aH ad af ah/\aK ad af ah)(k:∀(ad:aG) (af:aM) (ah:aV),aH ad af ah->aK ad af ah->G):G:=h.elim fun x h=>dc h (k x)
theorem hN{aG aM aV:Type}{aH aK p3:aG->aM->aV->Prop}{G:Prop}(h:∃(ad:aG) (af:aM) (ah:aV),aH ad af ah/\aK ad af ah/\p3 ad af ah)(k:∀(ad:aG) (af:aM) (ah:aV),aH ad af ah->aK ad af ah->p3 ad af ah->G):G:=h.elim fun x h=>c0 h (k x)
theorem fq{aG aM aV:Type}{aH aK p3 a4:aG->aM->aV->Prop}{G:Prop}(h:∃(ad:aG) (af:aM) (ah:aV),aH ad af ah/\aK ad af ah/\p3 ad af ah/\a4 ad af ah)(k:∀(ad:aG) (af:aM) (ah:aV),aH ad af ah->aK ad af ah->p3 ad af ah->a4 ad af ah->G):G:=h.elim fun x h=>zG h (k x)
theorem zH{aG aM aV:Type}{aH aK p3 a4 bf:aG->aM->aV->Prop}{G:Prop}(h:∃(ad:aG) (af:aM) (ah:aV),aH ad af ah/\aK ad af ah/\p3 ad af ah/\a4 ad af ah/\bf ad af ah)(k:∀(ad:aG) (af:aM) (ah:aV),aH ad af ah->aK ad af ah->p3 ad af ah->a4 ad af ah->bf ad af ah->G):G:=h.elim fun x h=>k5 h (k x)
theorem zI{aG aM aV:Type}{aH aK p3 a4 bf bq:aG->aM->aV->Prop}{G:Prop}(h:∃(ad:aG) (af:aM) (ah:aV),aH ad af ah/\aK ad af ah/\p3 ad af ah/\a4 ad af ah/\bf ad af ah/\bq ad af ah)(k:∀(ad:aG) (af:aM) (ah:aV),aH ad af ah->aK ad af ah->p3 ad af ah->a4 ad af ah->bf ad af ah->bq ad af ah->G):G:=h.elim fun x h=>EB h (k x)
theorem ae2{aG aM aV:Type}{aH aK p3 a4 bf bq bX:aG->aM->aV->Prop}{G:Prop}(h:∃(ad:aG) (af:aM) (ah:aV),aH ad af ah/\aK ad af ah/\p3 ad af ah/\a4 ad af ah/\bf ad af ah/\bq ad af ah/\bX ad af ah)(k:∀(ad:aG) (af:aM) (ah:aV),aH ad af ah->aK ad af ah->p3 ad af ah->a4 ad af ah->bf ad af ah->bq ad af ah->bX ad af ah->G):G:=h.elim fun x h=>Nx h (k x)
theorem ae3{aG aM aV:Type}{aH aK p3 a4 bf bq bX cU di:aG->aM->aV->Prop}{G:Prop}(h:∃(ad:aG) (af:aM) (ah:aV),aH ad af ah/\aK ad af ah/\p3 ad af ah/\a4 ad af ah/\bf ad af ah/\bq ad af ah/\bX ad af ah/\cU ad af ah/\di ad af ah)(k:∀(ad:aG) (af:aM) (ah:aV),aH ad af ah->aK ad af ah->p3 ad af ah->a4 ad af ah->bf ad af ah->bq ad af ah->bX ad af ah->cU ad af ah->di ad af ah->G):G:=h.elim fun x h=>ae1 h (k x)
theorem rp{aG aM aV a9:Type}{aH:aG->aM->aV->a9->Prop}{G:Prop}(h:∃(ad:aG) (af:aM) (ah:aV) (aq:a9),aH ad af ah aq)(k:∀(ad:aG) (af:aM) (ah:aV) (aq:a9),aH ad af ah aq->G):G:=h.elim fun x h=>tn h (k x)
theorem lZ{aG aM aV a9:Type}{aH aK:aG->aM->aV->a9->Prop}{G:Prop}(h:∃(ad:aG) (af:aM) (ah:aV) (aq:a9),aH ad af ah aq/\aK ad af ah aq)(k:∀(ad:aG) (af:aM) (ah:aV) (aq:a9),aH ad af ah aq->aK ad af ah aq->G):G:=h.elim fun x h=>iJ h (k x)
theorem l0{aG aM aV a9:Type}{aH aK p3:aG->aM->aV->a9->Prop}{G:Prop}(h:∃(ad:aG) (af:aM) (ah:aV) (aq:a9),aH ad af ah aq/\aK ad af ah aq/\p3 ad af ah aq)(k:∀(ad:aG) (af:aM) (ah:aV) (aq:a9),aH ad af ah aq->aK ad af ah aq->p3 ad af ah aq->G):G:=h.elim fun x h=>hN h (k x)
theorem h9{aG aM aV a9:Type}{aH aK p3 a4:aG->aM->aV->a9->Prop}{G:Prop}(h:∃(ad:aG) (af:aM) (ah:aV) (aq:a9),aH ad af ah aq/\aK ad af ah aq/\p3 ad af ah aq/\a4 ad af ah aq)(k:∀(ad:aG) (af:aM) (ah:aV) (aq:a9),aH ad af ah aq->aK ad af ah aq->p3 ad af ah aq->a4 ad af ah aq->G):G:=h.elim fun x h=>fq h (k x)
theorem ae4{aG aM aV a9:Type}{aH aK p3 a4 bf:aG->aM->aV->a9->Prop}{G:Prop}(h:∃(ad:aG) (af:aM) (ah:aV) (aq:a9),aH ad af ah aq/\aK ad af ah aq/\p3 ad af ah aq/\a4 ad af ah aq/\bf ad af ah aq)(k:∀(ad:aG) (af:aM) (ah:aV) (aq:a9),aH ad af ah aq->aK ad af ah aq->p3 ad af ah aq->a4 ad af ah aq->bf ad af ah aq->G):G:=h.elim fun x h=>zH h (k x)
theorem ae5{aG aM aV a9:Type}{aH aK p3 a4 bf bq:aG->aM->aV->a9->Prop}{G:Prop}(h:∃(ad:aG) (af:aM) (ah:aV) (aq:a9),aH ad af ah aq/\aK ad af ah aq/\p3 ad af ah aq/\a4 ad af ah aq/\bf ad af ah aq/\bq ad af ah aq)(k:∀(ad:aG) (af:aM) (ah:aV) (aq:a9),aH ad af ah aq->aK ad af ah aq->p3 ad af ah aq->a4 ad af ah aq->bf ad af ah aq->bq ad af ah aq->G):G:=h.elim fun x h=>zI h (k x)
theorem ae6{aG aM aV a9:Type}{aH aK p3 a4 bf bq bX:aG->aM->aV->a9->Prop}{G:Prop}(h:∃(ad:aG) (af:aM) (ah:aV) (aq:a9),aH ad af ah aq/\aK ad af ah aq/\p3 ad af ah aq/\a4 ad af ah aq/\bf ad af ah aq/\bq ad af ah aq/\bX ad af ah aq)(k:∀(ad:aG) (af:aM) (ah:aV) (aq:a9),aH ad af ah aq->aK ad af ah aq->p3 ad af ah aq->a4 ad af ah aq->bf ad af ah aq->bq ad af ah aq->bX ad af ah aq->G):G:=h.elim fun x h=>ae2 h (k x)
theorem ae7{aG aM aV a9:Type}{aH aK p3 a4 bf bq bX cU di:aG->aM->aV->a9->Prop}{G:Prop}(h:∃(ad:aG) (af:aM) (ah:aV) (aq:a9),aH ad af ah aq/\aK ad af ah aq/\p3 ad af ah aq/\a4 ad af ah aq/\bf ad af ah aq/\bq ad af ah aq/\bX ad af ah aq/\cU ad af ah aq/\di ad af ah aq)(k:∀(ad:aG) (af:aM) (ah:aV) (aq:a9),aH ad af ah aq->aK ad af ah aq->p3 ad af ah aq->a4 ad af ah aq->bf ad af ah aq->bq ad af ah aq->bX ad af ah aq->cU ad af ah aq->di ad af ah aq->G):G:=h.elim fun x h=>ae3 h (k x)
theorem EC{aG aM aV a9 bA:Type}{aH:aG->aM->aV->a9->bA->Prop}{G:Prop}(h:∃(ad:aG) (af:aM) (ah:aV) (aq:a9) (aB:bA),aH ad af ah aq aB)(k:∀(ad:aG) (af:aM) (ah:aV) (aq:a9) (aB:bA),aH ad af ah aq aB->G):G:=h.elim fun x h=>rp h (k x)
theorem Ny{aG aM aV a9 bA:Type}{aH aK:aG->aM->aV->a9->bA->Prop}{G:Prop}(h:∃(ad:aG) (af:aM) (ah:aV) (aq:a9) (aB:bA),aH ad af ah aq aB/\aK ad af ah aq aB)(k:∀(ad:aG) (af:aM) (ah:aV) (aq:a9) (aB:bA),aH ad af ah aq aB->aK ad af ah aq aB->G):G:=h.elim fun x h=>lZ h (k x)
theorem NA{aG aM aV a9 bA:Type}{aH aK p3:aG->aM->aV->a9->bA->Prop}{G:Prop}(h:∃(ad:aG) (af:aM) (ah:aV) (aq:a9) (aB:bA),aH ad af ah aq aB/\aK ad af ah aq aB/\p3 ad af ah aq aB)(k:∀(ad:aG) (af:aM) (ah:aV) (aq:a9) (aB:bA),aH ad af ah aq aB->aK ad af ah aq aB->p3 ad af ah aq aB->G):G:=h.elim fun x h=>l0 h (k x)
theorem ED{aG aM aV a9 bA:Type}{aH aK p3 a4:aG->aM->aV->a9->bA->Prop}{G:Prop}(h:∃(ad:aG) (af:aM) (ah:aV) (aq:a9) (aB:bA),aH ad af ah aq aB/\aK ad af ah aq aB/\p3 ad af ah aq aB/\a4 ad af ah aq aB)(k:∀(ad:aG) (af:aM) (ah:aV) (aq:a9) (aB:bA),aH ad af ah aq aB->aK ad af ah aq aB->p3 ad af ah aq aB->a4 ad af ah aq aB->G):G:=h.elim fun x h=>h9 h (k x)
theorem EE{aG aM aV a9 bA:Type}{aH aK p3 a4 bf:aG->aM->aV->a9->bA->Prop}{G:Prop}(h:∃(ad:aG) (af:aM) (ah:aV) (aq:a9) (aB:bA),aH ad af ah aq aB/\aK ad af ah aq aB/\p3 ad af ah aq aB/\a4 ad af ah aq aB/\bf ad af ah aq aB)(k:∀(ad:aG) (af:aM) (ah:aV) (aq:a9) (aB:bA),aH ad af ah aq aB->aK ad af ah aq aB->p3 ad af ah aq aB->a4 ad af ah aq aB->bf ad af ah aq aB->G):G:=h.elim fun x h=>ae4 h (k x)
theorem tp{aG aM aV a9 bA:Type}{aH aK p3 a4 bf bq:aG->aM->aV->a9->bA->Prop}{G:Prop}(h:∃(ad:aG) (af:aM) (ah:aV) (aq:a9) (aB:bA),aH ad af ah aq aB/\aK ad af ah aq aB/\p3 ad af ah aq aB/\a4 ad af ah aq aB/\bf ad af ah aq aB/\bq ad af ah aq aB)(k:∀(ad:aG) (af:aM) (ah:aV) (aq:a9) (aB:bA),aH ad af ah aq aB->aK ad af ah aq aB->p3 ad af ah aq aB->a4 ad af ah aq aB->bf ad af ah aq aB->bq ad af ah aq aB->G):G:=h.elim fun x h=>ae5 h (k x)
theorem ae8{aG aM aV a9 bA:Type}{aH aK p3 a4 bf bq bX:aG->aM->aV->a9->bA->Prop}{G:Prop}(h:∃(ad:aG) (af:aM) (ah:aV) (aq:a9) (aB:bA),aH ad af ah aq aB/\aK ad af ah aq aB/\p3 ad af ah aq aB/\a4 ad af ah aq aB/\bf ad af ah aq aB/\bq ad af ah aq aB/\bX ad af ah aq aB)(k:∀(ad:aG) (af:aM) (ah:aV) (aq:a9) (aB:bA),aH ad af ah aq aB->aK ad af ah aq aB->p3 ad af ah aq aB->a4 ad af ah aq aB->bf ad af ah aq aB->bq ad af ah aq aB->bX ad af ah aq aB->G):G:=h.elim fun x h=>ae6 h (k x)
theorem ae9{aG aM aV a9 bA:Type}{aH aK p3 a4 bf bq bX cU di:aG->aM->aV->a9->bA->Prop}{G:Prop}(h:∃(ad:aG) (af:aM) (ah:aV) (aq:a9) (aB:bA),aH ad af ah aq aB/\aK ad af ah aq aB/\p3 ad af ah aq aB/\a4 ad af ah aq aB/\bf ad af ah aq aB/\bq ad af ah aq aB/\bX ad af ah aq aB/\cU ad af ah aq aB/\di ad af ah aq aB)(k:∀(ad:aG) (af:aM) (ah:aV) (aq:a9) (aB:bA),aH ad af ah aq aB->aK ad af ah aq aB->p3 ad af ah aq aB->a4 ad af ah aq aB->bf ad af ah aq aB->bq ad af ah aq aB->bX ad af ah aq aB->cU ad af ah aq aB->di ad af ah aq aB->G):G:=h.elim fun x h=>ae7 h (k x)
theorem NB{aG aM aV a9 bA b7:Type}{aH:aG->aM->aV->a9->bA->b7->Prop}{G:Prop}(h:∃(ad:aG) (af:aM) (ah:aV) (aq:a9) (aB:bA) (aR:b7),aH ad af ah aq aB aR)(k:∀(ad:aG) (af:aM) (ah:aV) (aq:a9) (aB:bA) (aR:b7),aH ad af ah aq aB aR->G):G:=h.elim fun x h=>EC h (k x)
theorem afa{aG aM aV a9 bA b7:Type}{aH aK:aG->aM->aV->a9->bA->b7->Prop}{G:Prop}(h:∃(ad:aG) (af:aM) (ah:aV) (aq:a9) (aB:bA) (aR:b7),aH ad af ah aq aB aR/\aK ad af ah aq aB aR)(k:∀(ad:aG) (af:aM) (ah:aV) (aq:a9) (aB:bA) (aR:b7),aH ad af ah aq aB aR->aK ad af ah aq aB aR->G):G:=h.elim fun x h=>Ny h (k x)
theorem afb{aG aM aV a9 bA b7:Type}{aH aK p3:aG->aM->aV->a9->bA->b7->Prop}{G:Prop}(h:∃(ad:aG) (af:aM) (ah:aV) (aq:a9) (aB:bA) (aR:b7),aH ad af ah aq aB aR/\aK ad af ah aq aB aR/\p3 ad af ah aq aB aR)(k:∀(ad:aG) (af:aM) (ah:aV) (aq:a9) (aB:bA) (aR:b7),aH ad af ah aq aB aR->aK ad af ah aq aB aR->p3 ad af ah aq aB aR->G):G:=h.elim fun x h=>NA h (k x)
theorem afc{aG aM aV a9 bA b7:Type}{aH aK p3 a4 bf bq:aG->aM->aV->a9->bA->b7->Prop}{G:Prop}(h:∃(ad:aG) (af:aM) (ah:aV) (aq:a9) (aB:bA) (aR:b7),aH ad af ah aq aB aR/\aK ad af ah aq aB aR/\p3 ad af ah aq aB aR/\a4 ad af ah aq aB aR/\bf ad af ah aq aB aR/\bq ad af ah aq aB aR)(k:∀(ad:aG) (af:aM) (ah:aV) (aq:a9) (aB:bA) (aR:b7),aH ad af ah aq aB aR->aK ad af ah aq aB aR->p3 ad af ah aq aB aR->a4 ad af ah aq aB aR->bf ad af ah aq aB aR->bq ad af ah aq aB aR->G):G:=h.elim fun x h=>tp h (k x)
theorem EF{aG aM aV a9 bA b7:Type}{aH aK p3 a4 bf bq bX:aG->aM->aV->a9->bA->b7->Prop}{G:Prop}(h:∃(ad:aG) (af:aM) (ah:aV) (aq:a9) (aB:bA) (aR:b7),aH ad af ah aq aB aR/\aK ad af ah aq aB aR/\p3 ad af ah aq aB aR/\a4 ad af ah aq aB aR/\bf ad af ah aq aB aR/\bq ad af ah aq aB aR/\bX ad af ah aq aB aR)(k:∀(ad:aG) (af:aM) (ah:aV) (aq:a9) (aB:bA) (aR:b7),aH ad af ah aq aB aR->aK ad af ah aq aB aR->p3 ad af ah aq aB aR->a4 ad af ah aq aB aR->bf ad af ah aq aB aR->bq ad af ah aq aB aR->bX ad af ah aq aB aR->G):G:=h.elim fun x h=>ae8 h (k x)
theorem afd{aG aM aV a9 bA b7:Type}{aH aK p3 a4 bf bq bX cU di:aG->aM->aV->a9->bA->b7->Prop}{G:Prop}(h:∃(ad:aG) (af:aM) (ah:aV) (aq:a9) (aB:bA) (aR:b7),aH ad af ah aq aB aR/\aK ad af ah aq aB aR/\p3 ad af ah aq aB aR/\a4 ad af ah aq aB aR/\bf ad af ah aq aB aR/\bq ad af ah aq aB aR/\bX ad af ah aq aB aR/\cU ad af ah aq aB aR/\di ad af ah aq aB aR)(k:∀(ad:aG) (af:aM) (ah:aV) (aq:a9) (aB:bA) (aR:b7),aH ad af ah aq aB aR->aK ad af ah aq aB aR->p3 ad af ah aq aB aR->a4 ad af ah aq aB aR->bf ad af ah aq aB aR->bq ad af ah aq aB aR->bX ad af ah aq aB aR->cU ad af ah aq aB aR->di ad af ah aq aB aR->G):G:=h.elim fun x h=>ae9 h (k x)
theorem afe{aG aM aV a9 bA b7 dn:Type}{aH:aG->aM->aV->a9->bA->b7->dn->Prop}{G:Prop}(h:∃(ad:aG) (af:aM) (ah:aV) (aq:a9) (aB:bA) (aR:b7) (bk:dn),aH ad af ah aq aB aR bk)(k:∀(ad:aG) (af:aM) (ah:aV) (aq:a9) (aB:bA) (aR:b7) (bk:dn),aH ad af ah aq aB aR bk->G):G:=h.elim fun x h=>NB h (k x)
theorem NC{aG aM aV a9 bA b7 dn:Type}{aH aK:aG->aM->aV->a9->bA->b7->dn->Prop}{G:Prop}(h:∃(ad:aG) (af:aM) (ah:aV) (aq:a9) (aB:bA) (aR:b7) (bk:dn),aH ad af ah aq aB aR bk/\aK ad af ah aq aB aR bk)(k:∀(ad:aG) (af:aM) (ah:aV) (aq:a9) (aB:bA) (aR:b7) (bk:dn),aH ad af ah aq aB aR bk->aK ad af ah aq aB aR bk->G):G:=h.elim fun x h=>afa h (k x)
theorem aff{aG aM aV a9 bA b7 dn:Type}{aH aK p3:aG->aM->aV->a9->bA->b7->dn->Prop}{G:Prop}(h:∃(ad:aG) (af:aM) (ah:aV) (aq:a9) (aB:bA) (aR:b7) (bk:dn),aH ad af ah aq aB aR bk/\aK ad af ah aq aB aR bk/\p3 ad af ah aq aB aR bk)(k:∀(ad:aG) (af:aM) (ah:aV) (aq:a9) (aB:bA) (aR:b7) (bk:dn),aH ad af ah aq aB aR bk->aK ad af ah aq aB aR bk->p3 ad af ah aq aB aR bk->G):G:=h.elim fun x h=>afb h (k x)
theorem afg{aG aM aV a9 bA b7 dn:Type}{aH aK p3 a4 bf bq:aG->aM->aV->a9->bA->b7->dn->Prop}{G:Prop}(h:∃(ad:aG) (af:aM) (ah:aV) (aq:a9) (aB:bA) (aR:b7) (bk:dn),aH ad af ah aq aB aR bk/\aK ad af ah aq aB aR bk/\p3 ad af ah aq aB aR bk/\a4 ad af ah aq aB aR bk/\bf ad af ah aq aB aR bk/\bq ad af ah aq aB aR bk)(k:∀(ad:aG) (af:aM) (ah:aV) (aq:a9) (aB:bA) (aR:b7) (bk:dn),aH ad af ah aq aB aR bk->aK ad af ah aq aB aR bk->p3 ad af ah aq aB aR bk->a4 ad af ah aq aB aR bk->bf ad af ah aq aB aR bk->bq ad af ah aq aB aR bk->G):G:=h.elim fun x h=>afc h (k x)
theorem afh{aG aM aV a9 bA b7 dn:Type}{aH aK p3 a4 bf bq bX:aG->aM->aV->a9->bA->b7->dn->Prop}{G:Prop}(h:∃(ad:aG) (af:aM) (ah:aV) (aq:a9) (aB:bA) (aR:b7) (bk:dn),aH ad af ah aq aB aR bk/\aK ad af ah aq aB aR bk/\p3 ad af ah aq aB aR bk/\a4 ad af ah aq aB aR bk/\bf ad af ah aq aB aR bk/\bq ad af ah aq aB aR bk/\bX ad af ah aq aB aR bk)(k:∀(ad:aG) (af:aM) (ah:aV) (aq:a9) (aB:bA) (aR:b7) (bk:dn),aH ad af ah aq aB aR bk->aK ad af ah aq aB aR bk->p3 ad af ah aq aB aR bk->a4 ad af ah aq aB aR bk->bf ad af ah aq aB aR bk->bq ad af ah aq aB aR bk->bX ad af ah aq aB aR bk->G):G:=h.elim fun x h=>EF h (k x)
theorem afi{aG aM aV a9 bA b7 dn:Type}{aH aK p3 a4 bf bq bX cU di:aG->aM->aV->a9->bA->b7->dn->Prop}{G:Prop}(h:∃(ad:aG) (af:aM) (ah:aV) (aq:a9) (aB:bA) (aR:b7) (bk:dn),aH ad af ah aq aB aR bk/\aK ad af ah aq aB aR bk/\p3 ad af ah aq aB aR bk/\a4 ad af ah aq aB aR bk/\bf ad af ah aq aB aR bk/\bq ad af ah aq aB aR bk/\bX ad af ah aq aB aR bk/\cU ad af ah aq aB aR bk/\di ad af ah aq aB aR bk)(k:∀(ad:aG) (af:aM) (ah:aV) (aq:a9) (aB:bA) (aR:b7) (bk:dn),aH ad af ah aq aB aR bk->aK ad af ah aq aB aR bk->p3 ad af ah aq aB aR bk->a4 ad af ah aq aB aR bk->bf ad af ah aq aB aR bk->bq ad af ah aq aB aR bk->bX ad af ah aq aB aR bk->cU ad af ah aq aB aR bk->di ad af ah aq aB aR bk->G):G:=h.elim fun x h=>afd h (k x)
theorem afj{aG aM aV a9 bA b7 dn me:Type}{aH aK p3 a4 bf bq bX cU di:aG->aM->aV->a9->bA->b7->dn->me->Prop}{G:Prop}(h:∃(ad:aG) (af:aM) (ah:aV) (aq:a9) (aB:bA) (aR:b7) (bk:dn) (c5:me),aH ad af ah aq aB aR bk c5/\aK ad af ah aq aB aR bk c5/\p3 ad af ah aq aB aR bk c5/\a4 ad af ah aq aB aR bk c5/\bf ad af ah aq aB aR bk c5/\bq ad af ah aq aB aR bk c5/\bX ad af ah aq aB aR bk c5/\cU ad af ah aq aB aR bk c5/\di ad af ah aq aB aR bk c5)(k:∀(ad:aG) (af:aM) (ah:aV) (aq:a9) (aB:bA) (aR:b7) (bk:dn) (c5:me),aH ad af ah aq aB aR bk c5->aK ad af ah aq aB aR bk c5->p3 ad af ah aq aB aR bk c5->a4 ad af ah aq aB aR bk c5->bf ad af ah aq aB aR bk c5->bq ad af ah aq aB aR bk c5->bX ad af ah aq aB aR bk c5->cU ad af ah aq aB aR bk c5->di ad af ah aq aB aR bk c5->G):G:=h.elim fun x h=>afi h (k x)
theorem ND{aH:Prop}(aw:aH):aH:=aw
theorem NE{aH aK:Prop}(aw:aH)(ai:aK):aH/\aK:=⟨aw,ND ai⟩
theorem EG{aH aK p3:Prop}(aw:aH)(ai:aK)(a3:p3):aH/\aK/\p3:=⟨aw,NE ai a3⟩
theorem EH{aH aK p3 a4:Prop}(aw:aH)(ai:aK)(a3:p3)(bn:a4):aH/\aK/\p3/\a4:=⟨aw,EG ai a3 bn⟩
theorem EI{aH aK p3 a4 bf:Prop}(aw:aH)(ai:aK)(a3:p3)(bn:a4)(bN:bf):aH/\aK/\p3/\a4/\bf:=⟨aw,EH ai a3 bn bN⟩
theorem EJ{aH aK p3 a4 bf bq:Prop}(aw:aH)(ai:aK)(a3:p3)(bn:a4)(bN:bf)(cw:bq):aH/\aK/\p3/\a4/\bf/\bq:=⟨aw,EI ai a3 bn bN cw⟩
theorem NF{aH aK p3 a4 bf bq bX:Prop}(aw:aH)(ai:aK)(a3:p3)(bn:a4)(bN:bf)(cw:bq)(eF:bX):aH/\aK/\p3/\a4/\bf/\bq/\bX:=⟨aw,EJ ai a3 bn bN cw eF⟩
theorem afk{aH aK p3 a4 bf bq bX cU:Prop}(aw:aH)(ai:aK)(a3:p3)(bn:a4)(bN:bf)(cw:bq)(eF:bX)(hE:cU):aH/\aK/\p3/\a4/\bf/\bq/\bX/\cU:=⟨aw,NF ai a3 bn bN cw eF hE⟩
theorem afl{aH aK p3 a4 bf bq bX cU di:Prop}(aw:aH)(ai:aK)(a3:p3)(bn:a4)(bN:bf)(cw:bq)(eF:bX)(hE:cU)(ia:di):aH/\aK/\p3/\a4/\bf/\bq/\bX/\cU/\di:=⟨aw,afk ai a3 bn bN cw eF hE ia⟩
theorem afm{aG:Type}{aH:aG->Prop}(ad:aG)(aw:aH ad):∃(ad:aG),aH ad:=⟨ad,ND aw⟩
theorem i12{aG:Type}{aH aK:aG->Prop}(ad:aG)(aw:aH ad)(ai:aK ad):∃(ad:aG),aH ad/\aK ad:=⟨ad,NE aw ai⟩
theorem gu{aG:Type}{aH aK p3:aG->Prop}(ad:aG)(aw:aH ad)(ai:aK ad)(a3:p3 ad):∃(ad:aG),aH ad/\aK ad/\p3 ad:=⟨ad,EG aw ai a3⟩
theorem tq{aG:Type}{aH aK p3 a4:aG->Prop}(ad:aG)(aw:aH ad)(ai:aK ad)(a3:p3 ad)(bn:a4 ad):∃(ad:aG),aH ad/\aK ad/\p3 ad/\a4 ad:=⟨ad,EH aw ai a3 bn⟩
theorem afn{aG:Type}{aH aK p3 a4 bf:aG->Prop}(ad:aG)(aw:aH ad)(ai:aK ad)(a3:p3 ad)(bn:a4 ad)(bN:bf ad):∃(ad:aG),aH ad/\aK ad/\p3 ad/\a4 ad/\bf ad:=⟨ad,EI aw ai a3 bn bN⟩
theorem afo{aG:Type}{aH aK p3 a4 bf bq:aG->Prop}(ad:aG)(aw:aH ad)(ai:aK ad)(a3:p3 ad)(bn:a4 ad)(bN:bf ad)(cw:bq ad):∃(ad:aG),aH ad/\aK ad/\p3 ad/\a4 ad/\bf ad/\bq ad:=⟨ad,EJ aw ai a3 bn bN cw⟩
theorem zJ{aG:Type}{aH aK p3 a4 bf bq bX:aG->Prop}(ad:aG)(aw:aH ad)(ai:aK ad)(a3:p3 ad)(bn:a4 ad)(bN:bf ad)(cw:bq ad)(eF:bX ad):∃(ad:aG),aH ad/\aK ad/\p3 ad/\a4 ad/\bf ad/\bq ad/\bX ad:=⟨ad,NF aw ai a3 bn bN cw eF⟩
theorem afp{aG:Type}{aH aK p3 a4 bf bq bX cU di:aG->Prop}(ad:aG)(aw:aH ad)(ai:aK ad)(a3:p3 ad)(bn:a4 ad)(bN:bf ad)(cw:bq ad)(eF:bX ad)(hE:cU ad)(ia:di ad):∃(ad:aG),aH ad/\aK ad/\p3 ad/\a4 ad/\bf ad/\bq ad/\bX ad/\cU ad/\di ad:=⟨ad,afl aw ai a3 bn bN cw eF hE ia⟩
theorem afq{aG aM:Type}{aH:aG->aM->Prop}(ad:aG)(af:aM)(aw:aH ad af):∃(ad:aG) (af:aM),aH ad af:=⟨ad,afm af aw⟩
theorem hx{aG aM:Type}{aH aK:aG->aM->Prop}(ad:aG)(af:aM)(aw:aH ad af)(ai:aK ad af):∃(ad:aG) (af:aM),aH ad af/\aK ad af:=⟨ad,i12 af aw ai⟩
theorem dW{aG aM:Type}{aH aK p3:aG->aM->Prop}(ad:aG)(af:aM)(aw:aH ad af)(ai:aK ad af)(a3:p3 ad af):∃(ad:aG) (af:aM),aH ad af/\aK ad af/\p3 ad af:=⟨ad,gu af aw ai a3⟩
theorem tr{aG aM:Type}{aH aK p3 a4:aG->aM->Prop}(ad:aG)(af:aM)(aw:aH ad af)(ai:aK ad af)(a3:p3 ad af)(bn:a4 ad af):∃(ad:aG) (af:aM),aH ad af/\aK ad af/\p3 ad af/\a4 ad af:=⟨ad,tq af aw ai a3 bn⟩
theorem tu{aG aM:Type}{aH aK p3 a4 bf:aG->aM->Prop}(ad:aG)(af:aM)(aw:aH ad af)(ai:aK ad af)(a3:p3 ad af)(bn:a4 ad af)(bN:bf ad af):∃(ad:aG) (af:aM),aH ad af/\aK ad af/\p3 ad af/\a4 ad af/\bf ad af:=⟨ad,afn af aw ai a3 bn bN⟩
theorem EK{aG aM:Type}{aH aK p3 a4 bf bq:aG->aM->Prop}(ad:aG)(af:aM)(aw:aH ad af)(ai:aK ad af)(a3:p3 ad af)(bn:a4 ad af)(bN:bf ad af)(cw:bq ad af):∃(ad:aG) (af:aM),aH ad af/\aK ad af/\p3 ad af/\a4 ad af/\bf ad af/\bq ad af:=⟨ad,afo af aw ai a3 bn bN cw⟩
theorem n9{aG aM:Type}{aH aK p3 a4 bf bq bX:aG->aM->Prop}(ad:aG)(af:aM)(aw:aH ad af)(ai:aK ad af)(a3:p3 ad af)(bn:a4 ad af)(bN:bf ad af)(cw:bq ad af)(eF:bX ad af):∃(ad:aG) (af:aM),aH ad af/\aK ad af/\p3 ad af/\a4 ad af/\bf ad af/\bq ad af/\bX ad af:=⟨ad,zJ af aw ai a3 bn bN cw eF⟩
theorem afr{aG aM:Type}{aH aK p3 a4 bf bq bX cU di:aG->aM->Prop}(ad:aG)(af:aM)(aw:aH ad af)(ai:aK ad af)(a3:p3 ad af)(bn:a4 ad af)(bN:bf ad af)(cw:bq ad af)(eF:bX ad af)(hE:cU ad af)(ia:di ad af):∃(ad:aG) (af:aM),aH ad af/\aK ad af/\p3 ad af/\a4 ad af/\bf ad af/\bq ad af/\bX ad af/\cU ad af/\di ad af:=⟨ad,afp af aw ai a3 bn bN cw eF hE ia⟩
theorem EL{aG aM aV:Type}{aH:aG->aM->aV->Prop}(ad:aG)(af:aM)(ah:aV)(aw:aH ad af ah):∃(ad:aG) (af:aM) (ah:aV),aH ad af ah:=⟨ad,afq af ah aw⟩
theorem tv{aG aM aV:Type}{aH aK:aG->aM->aV->Prop}(ad:aG)(af:aM)(ah:aV)(aw:aH ad af ah)(ai:aK ad af ah):∃(ad:aG) (af:aM) (ah:aV),aH ad af ah/\aK ad af ah:=⟨ad,hx af ah aw ai⟩
theorem ji{aG aM aV:Type}{aH aK p3:aG->aM->aV->Prop}(ad:aG)(af:aM)(ah:aV)(aw:aH ad af ah)(ai:aK ad af ah)(a3:p3 ad af ah):∃(ad:aG) (af:aM) (ah:aV),aH ad af ah/\aK ad af ah/\p3 ad af ah:=⟨ad,dW af ah aw ai a3⟩
theorem pj{aG aM aV:Type}{aH aK p3 a4:aG->aM->aV->Prop}(ad:aG)(af:aM)(ah:aV)(aw:aH ad af ah)(ai:aK ad af ah)(a3:p3 ad af ah)(bn:a4 ad af ah):∃(ad:aG) (af:aM) (ah:aV),aH ad af ah/\aK ad af ah/\p3 ad af ah/\a4 ad af ah:=⟨ad,tr af ah aw ai a3 bn⟩
theorem zK{aG aM aV:Type}{aH aK p3 a4 bf:aG->aM->aV->Prop}(ad:aG)(af:aM)(ah:aV)(aw:aH ad af ah)(ai:aK ad af ah)(a3:p3 ad af ah)(bn:a4 ad af ah)(bN:bf ad af ah):∃(ad:aG) (af:aM) (ah:aV),aH ad af ah/\aK ad af ah/\p3 ad af ah/\a4 ad af ah/\bf ad af ah:=⟨ad,tu af ah aw ai a3 bn bN⟩
theorem wU{aG aM aV:Type}{aH aK p3 a4 bf bq:aG->aM->aV->Prop}(ad:aG)(af:aM)(ah:aV)(aw:aH ad af ah)(ai:aK ad af ah)(a3:p3 ad af ah)(bn:a4 ad af ah)(bN:bf ad af ah)(cw:bq ad af ah):∃(ad:aG) (af:aM) (ah:aV),aH ad af ah/\aK ad af ah/\p3 ad af ah/\a4 ad af ah/\bf ad af ah/\bq ad af ah:=⟨ad,EK af ah aw ai a3 bn bN cw⟩
theorem afs{aG aM aV:Type}{aH aK p3 a4 bf bq bX:aG->aM->aV->Prop}(ad:aG)(af:aM)(ah:aV)(aw:aH ad af ah)(ai:aK ad af ah)(a3:p3 ad af ah)(bn:a4 ad af ah)(bN:bf ad af ah)(cw:bq ad af ah)(eF:bX ad af ah):∃(ad:aG) (af:aM) (ah:aV),aH ad af ah/\aK ad af ah/\p3 ad af ah/\a4 ad af ah/\bf ad af ah/\bq ad af ah/\bX ad af ah:=⟨ad,n9 af ah aw ai a3 bn bN cw eF⟩
theorem aft{aG aM aV:Type}{aH aK p3 a4 bf bq bX cU di:aG->aM->aV->Prop}(ad:aG)(af:aM)(ah:aV)(aw:aH ad af ah)(ai:aK ad af ah)(a3:p3 ad af ah)(bn:a4 ad af ah)(bN:bf ad af ah)(cw:bq ad af ah)(eF:bX ad af ah)(hE:cU ad af ah)(ia:di ad af ah):∃(ad:aG) (af:aM) (ah:aV),aH ad af ah/\aK ad af ah/\p3 ad af ah/\a4 ad af ah/\bf ad af ah/\bq ad af ah/\bX ad af ah/\cU ad af ah/\di ad af ah:=⟨ad,afr af ah aw ai a3 bn bN cw eF hE ia⟩
theorem zL{aG aM aV a9:Type}{aH:aG->aM->aV->a9->Prop}(ad:aG)(af:aM)(ah:aV)(aq:a9)(aw:aH ad af ah aq):∃(ad:aG) (af:aM) (ah:aV) (aq:a9),aH ad af ah aq:=⟨ad,EL af ah aq aw⟩
theorem zM{aG aM aV a9:Type}{aH aK:aG->aM->aV->a9->Prop}(ad:aG)(af:aM)(ah:aV)(aq:a9)(aw:aH ad af ah aq)(ai:aK ad af ah aq):∃(ad:aG) (af:aM) (ah:aV) (aq:a9),aH ad af ah aq/\aK ad af ah aq:=⟨ad,tv af ah aq aw ai⟩
theorem NI{aG aM aV a9:Type}{aH aK p3:aG->aM->aV->a9->Prop}(ad:aG)(af:aM)(ah:aV)(aq:a9)(aw:aH ad af ah aq)(ai:aK ad af ah aq)(a3:p3 ad af ah aq):∃(ad:aG) (af:aM) (ah:aV) (aq:a9),aH ad af ah aq/\aK ad af ah aq/\p3 ad af ah aq:=⟨ad,ji af ah aq aw ai a3⟩
theorem hy{aG aM aV a9:Type}{aH aK p3 a4:aG->aM->aV->a9->Prop}(ad:aG)(af:aM)(ah:aV)(aq:a9)(aw:aH ad af ah aq)(ai:aK ad af ah aq)(a3:p3 ad af ah aq)(bn:a4 ad af ah aq):∃(ad:aG) (af:aM) (ah:aV) (aq:a9),aH ad af ah aq/\aK ad af ah aq/\p3 ad af ah aq/\a4 ad af ah aq:=⟨ad,pj af ah aq aw ai a3 bn⟩
theorem EP{aG aM aV a9:Type}{aH aK p3 a4 bf:aG->aM->aV->a9->Prop}(ad:aG)(af:aM)(ah:aV)(aq:a9)(aw:aH ad af ah aq)(ai:aK ad af ah aq)(a3:p3 ad af ah aq)(bn:a4 ad af ah aq)(bN:bf ad af ah aq):∃(ad:aG) (af:aM) (ah:aV) (aq:a9),aH ad af ah aq/\aK ad af ah aq/\p3 ad af ah aq/\a4 ad af ah aq/\bf ad af ah aq:=⟨ad,zK af ah aq aw ai a3 bn bN⟩
theorem NK{aG aM aV a9:Type}{aH aK p3 a4 bf bq:aG->aM->aV->a9->Prop}(ad:aG)(af:aM)(ah:aV)(aq:a9)(aw:aH ad af ah aq)(ai:aK ad af ah aq)(a3:p3 ad af ah aq)(bn:a4 ad af ah aq)(bN:bf ad af ah aq)(cw:bq ad af ah aq):∃(ad:aG) (af:aM) (ah:aV) (aq:a9),aH ad af ah aq/\aK ad af ah aq/\p3 ad af ah aq/\a4 ad af ah aq/\bf ad af ah aq/\bq ad af ah aq:=⟨ad,wU af ah aq aw ai a3 bn bN cw⟩
theorem afu{aG aM aV a9:Type}{aH aK p3 a4 bf bq bX:aG->aM->aV->a9->Prop}(ad:aG)(af:aM)(ah:aV)(aq:a9)(aw:aH ad af ah aq)(ai:aK ad af ah aq)(a3:p3 ad af ah aq)(bn:a4 ad af ah aq)(bN:bf ad af ah aq)(cw:bq ad af ah aq)(eF:bX ad af ah aq):∃(ad:aG) (af:aM) (ah:aV) (aq:a9),aH ad af ah aq/\aK ad af ah aq/\p3 ad af ah aq/\a4 ad af ah aq/\bf ad af ah aq/\bq ad af ah aq/\bX ad af ah aq:=⟨ad,afs af ah aq aw ai a3 bn bN cw eF⟩
theorem afv{aG aM aV a9:Type}{aH aK p3 a4 bf bq bX cU di:aG->aM->aV->a9->Prop}(ad:aG)(af:aM)(ah:aV)(aq:a9)(aw:aH ad af ah aq)(ai:aK ad af ah aq)(a3:p3 ad af ah aq)(bn:a4 ad af ah aq)(bN:bf ad af ah aq)(cw:bq ad af ah aq)(eF:bX ad af ah aq)(hE:cU ad af ah aq)(ia:di ad af ah aq):∃(ad:aG) (af:aM) (ah:aV) (aq:a9),aH ad af ah aq/\aK ad af ah aq/\p3 ad af ah aq/\a4 ad af ah aq/\bf ad af ah aq/\bq ad af ah aq/\bX ad af ah aq/\cU ad af ah aq/\di ad af ah aq:=⟨ad,aft af ah aq aw ai a3 bn bN cw eF hE ia⟩
theorem NM{aG aM aV a9 bA:Type}{aH:aG->aM->aV->a9->bA->Prop}(ad:aG)(af:aM)(ah:aV)(aq:a9)(aB:bA)(aw:aH ad af ah aq aB):∃(ad:aG) (af:aM) (ah:aV) (aq:a9) (aB:bA),aH ad af ah aq aB:=⟨ad,zL af ah aq aB aw⟩
theorem afw{aG aM aV a9 bA:Type}{aH aK:aG->aM->aV->a9->bA->Prop}(ad:aG)(af:aM)(ah:aV)(aq:a9)(aB:bA)(aw:aH ad af ah aq aB)(ai:aK ad af ah aq aB):∃(ad:aG) (af:aM) (ah:aV) (aq:a9) (aB:bA),aH ad af ah aq aB/\aK ad af ah aq aB:=⟨ad,zM af ah aq aB aw ai⟩
theorem wV{aG aM aV a9 bA:Type}{aH aK p3 a4:aG->aM->aV->a9->bA->Prop}(ad:aG)(af:aM)(ah:aV)(aq:a9)(aB:bA)(aw:aH ad af ah aq aB)(ai:aK ad af ah aq aB)(a3:p3 ad af ah aq aB)(bn:a4 ad af ah aq aB):∃(ad:aG) (af:aM) (ah:aV) (aq:a9) (aB:bA),aH ad af ah aq aB/\aK ad af ah aq aB/\p3 ad af ah aq aB/\a4 ad af ah aq aB:=⟨ad,hy af ah aq aB aw ai a3 bn⟩
theorem EQ{aG aM aV a9 bA:Type}{aH aK p3 a4 bf:aG->aM->aV->a9->bA->Prop}(ad:aG)(af:aM)(ah:aV)(aq:a9)(aB:bA)(aw:aH ad af ah aq aB)(ai:aK ad af ah aq aB)(a3:p3 ad af ah aq aB)(bn:a4 ad af ah aq aB)(bN:bf ad af ah aq aB):∃(ad:aG) (af:aM) (ah:aV) (aq:a9) (aB:bA),aH ad af ah aq aB/\aK ad af ah aq aB/\p3 ad af ah aq aB/\a4 ad af ah aq aB/\bf ad af ah aq aB:=⟨ad,EP af ah aq aB aw ai a3 bn bN⟩
theorem ER{aG aM aV a9 bA:Type}{aH aK p3 a4 bf bq:aG->aM->aV->a9->bA->Prop}(ad:aG)(af:aM)(ah:aV)(aq:a9)(aB:bA)(aw:aH ad af ah aq aB)(ai:aK ad af ah aq aB)(a3:p3 ad af ah aq aB)(bn:a4 ad af ah aq aB)(bN:bf ad af ah aq aB)(cw:bq ad af ah aq aB):∃(ad:aG) (af:aM) (ah:aV) (aq:a9) (aB:bA),aH ad af ah aq aB/\aK ad af ah aq aB/\p3 ad af ah aq aB/\a4 ad af ah aq aB/\bf ad af ah aq aB/\bq ad af ah aq aB:=⟨ad,NK af ah aq aB aw ai a3 bn bN cw⟩
theorem afx{aG aM aV a9 bA:Type}{aH aK p3 a4 bf bq bX:aG->aM->aV->a9->bA->Prop}(ad:aG)(af:aM)(ah:aV)(aq:a9)(aB:bA)(aw:aH ad af ah aq aB)(ai:aK ad af ah aq aB)(a3:p3 ad af ah aq aB)(bn:a4 ad af ah aq aB)(bN:bf ad af ah aq aB)(cw:bq ad af ah aq aB)(eF:bX ad af ah aq aB):∃(ad:aG) (af:aM) (ah:aV) (aq:a9) (aB:bA),aH ad af ah aq aB/\aK ad af ah aq aB/\p3 ad af ah aq aB/\a4 ad af ah aq aB/\bf ad af ah aq aB/\bq ad af ah aq aB/\bX ad af ah aq aB:=⟨ad,afu af ah aq aB aw ai a3 bn bN cw eF⟩
theorem afy{aG aM aV a9 bA:Type}{aH aK p3 a4 bf bq bX cU di:aG->aM->aV->a9->bA->Prop}(ad:aG)(af:aM)(ah:aV)(aq:a9)(aB:bA)(aw:aH ad af ah aq aB)(ai:aK ad af ah aq aB)(a3:p3 ad af ah aq aB)(bn:a4 ad af ah aq aB)(bN:bf ad af ah aq aB)(cw:bq ad af ah aq aB)(eF:bX ad af ah aq aB)(hE:cU ad af ah aq aB)(ia:di ad af ah aq aB):∃(ad:aG) (af:aM) (ah:aV) (aq:a9) (aB:bA),aH ad af ah aq aB/\aK ad af ah aq aB/\p3 ad af ah aq aB/\a4 ad af ah aq aB/\bf ad af ah aq aB/\bq ad af ah aq aB/\bX ad af ah aq aB/\cU ad af ah aq aB/\di ad af ah aq aB:=⟨ad,afv af ah aq aB aw ai a3 bn bN cw eF hE ia⟩
theorem NN{aG aM aV a9 bA b7:Type}{aH:aG->aM->aV->a9->bA->b7->Prop}(ad:aG)(af:aM)(ah:aV)(aq:a9)(aB:bA)(aR:b7)(aw:aH ad af ah aq aB aR):∃(ad:aG) (af:aM) (ah:aV) (aq:a9) (aB:bA) (aR:b7),aH ad af ah aq aB aR:=⟨ad,NM af ah aq aB aR aw⟩
theorem afz{aG aM aV a9 bA b7:Type}{aH aK:aG->aM->aV->a9->bA->b7->Prop}(ad:aG)(af:aM)(ah:aV)(aq:a9)(aB:bA)(aR:b7)(aw:aH ad af ah aq aB aR)(ai:aK ad af ah aq aB aR):∃(ad:aG) (af:aM) (ah:aV) (aq:a9) (aB:bA) (aR:b7),aH ad af ah aq aB aR/\aK ad af ah aq aB aR:=⟨ad,afw af ah aq aB aR aw ai⟩
theorem afA{aG aM aV a9 bA b7:Type}{aH aK p3 a4 bf bq:aG->aM->aV->a9->bA->b7->Prop}(ad:aG)(af:aM)(ah:aV)(aq:a9)(aB:bA)(aR:b7)(aw:aH ad af ah aq aB aR)(ai:aK ad af ah aq aB aR)(a3:p3 ad af ah aq aB aR)(bn:a4 ad af ah aq aB aR)(bN:bf ad af ah aq aB aR)(cw:bq ad af ah aq aB aR):∃(ad:aG) (af:aM) (ah:aV) (aq:a9) (aB:bA) (aR:b7),aH ad af ah aq aB aR/\aK ad af ah aq aB aR/\p3 ad af ah aq aB aR/\a4 ad af ah aq aB aR/\bf ad af ah aq aB aR/\bq ad af ah aq aB aR:=⟨ad,ER af ah aq aB aR aw ai a3 bn bN cw⟩
theorem afB{aG aM aV a9 bA b7:Type}{aH aK p3 a4 bf bq bX:aG->aM->aV->a9->bA->b7->Prop}(ad:aG)(af:aM)(ah:aV)(aq:a9)(aB:bA)(aR:b7)(aw:aH ad af ah aq aB aR)(ai:aK ad af ah aq aB aR)(a3:p3 ad af ah aq aB aR)(bn:a4 ad af ah aq aB aR)(bN:bf ad af ah aq aB aR)(cw:bq ad af ah aq aB aR)(eF:bX ad af ah aq aB aR):∃(ad:aG) (af:aM) (ah:aV) (aq:a9) (aB:bA) (aR:b7),aH ad af ah aq aB aR/\aK ad af ah aq aB aR/\p3 ad af ah aq aB aR/\a4 ad af ah aq aB aR/\bf ad af ah aq aB aR/\bq ad af ah aq aB aR/\bX ad af ah aq aB aR:=⟨ad,afx af ah aq aB aR aw ai a3 bn bN cw eF⟩
theorem afC{aG aM aV a9 bA b7:Type}{aH aK p3 a4 bf bq bX cU di:aG->aM->aV->a9->bA->b7->Prop}(ad:aG)(af:aM)(ah:aV)(aq:a9)(aB:bA)(aR:b7)(aw:aH ad af ah aq aB aR)(ai:aK ad af ah aq aB aR)(a3:p3 ad af ah aq aB aR)(bn:a4 ad af ah aq aB aR)(bN:bf ad af ah aq aB aR)(cw:bq ad af ah aq aB aR)(eF:bX ad af ah aq aB aR)(hE:cU ad af ah aq aB aR)(ia:di ad af ah aq aB aR):∃(ad:aG) (af:aM) (ah:aV) (aq:a9) (aB:bA) (aR:b7),aH ad af ah aq aB aR/\aK ad af ah aq aB aR/\p3 ad af ah aq aB aR/\a4 ad af ah aq aB aR/\bf ad af ah aq aB aR/\bq ad af ah aq aB aR/\bX ad af ah aq aB aR/\cU ad af ah aq aB aR/\di ad af ah aq aB aR:=⟨ad,afy af ah aq aB aR aw ai a3 bn bN cw eF hE ia⟩
theorem afD{aG aM aV a9 bA b7 dn:Type}{aH:aG->aM->aV->a9->bA->b7->dn->Prop}(ad:aG)(af:aM)(ah:aV)(aq:a9)(aB:bA)(aR:b7)(bk:dn)(aw:aH ad af ah aq aB aR bk):∃(ad:aG) (af:aM) (ah:aV) (aq:a9) (aB:bA) (aR:b7) (bk:dn),aH ad af ah aq aB aR bk:=⟨ad,NN af ah aq aB aR bk aw⟩
theorem afE{aG aM aV a9 bA b7 dn:Type}{aH aK:aG->aM->aV->a9->bA->b7->dn->Prop}(ad:aG)(af:aM)(ah:aV)(aq:a9)(aB:bA)(aR:b7)(bk:dn)(aw:aH ad af ah aq aB aR bk)(ai:aK ad af ah aq aB aR bk):∃(ad:aG) (af:aM) (ah:aV) (aq:a9) (aB:bA) (aR:b7) (bk:dn),aH ad af ah aq aB aR bk/\aK ad af ah aq aB aR bk:=⟨ad,afz af ah aq aB aR bk aw ai⟩
theorem afF{aG aM aV a9 bA b7 dn:Type}{aH aK p3 a4 bf bq:aG->aM->aV->a9->bA->b7->dn->Prop}(ad:aG)(af:aM)(ah:aV)(aq:a9)(aB:bA)(aR:b7)(bk:dn)(aw:aH ad af ah aq aB aR bk)(ai:aK ad af ah aq aB aR bk)(a3:p3 ad af ah aq aB aR bk)(bn:a4 ad af ah aq aB aR bk)(bN:bf ad af ah aq aB aR bk)(cw:bq ad af ah aq aB aR bk):∃(ad:aG) (af:aM) (ah:aV) (aq:a9) (aB:bA) (aR:b7) (bk:dn),aH ad af ah aq aB aR bk/\aK ad af ah aq aB aR bk/\p3 ad af ah aq aB aR bk/\a4 ad af ah aq aB aR bk/\bf ad af ah aq aB aR bk/\bq ad af ah aq aB aR bk:=⟨ad,afA af ah aq aB aR bk aw ai a3 bn bN cw⟩
theorem afG{aG aM aV a9 bA b7 dn:Type}{aH aK p3 a4 bf bq bX:aG->aM->aV->a9->bA->b7->dn->Prop}(ad:aG)(af:aM)(ah:aV)(aq:a9)(aB:bA)(aR:b7)(bk:dn)(aw:aH ad af ah aq aB aR bk)(ai:aK ad af ah aq aB aR bk)(a3:p3 ad af ah aq aB aR bk)(bn:a4 ad af ah aq aB aR bk)(bN:bf ad af ah aq aB aR bk)(cw:bq ad af ah aq aB aR bk)(eF:bX ad af ah aq aB aR bk):∃(ad:aG) (af:aM) (ah:aV) (aq:a9) (aB:bA) (aR:b7) (bk:dn),aH ad af ah aq aB aR bk/\aK ad af ah aq aB aR bk/\p3 ad af ah aq aB aR bk/\a4 ad af ah aq aB aR bk/\bf ad af ah aq aB aR bk/\bq ad af ah aq aB aR bk/\bX ad af ah aq aB aR bk:=⟨ad,afB af ah aq aB aR bk aw ai a3 bn bN cw eF⟩
theorem afH{aG aM aV a9 bA b7 dn:Type}{aH aK p3 a4 bf bq bX cU di:aG->aM->aV->a9->bA->b7->dn->Prop}(ad:aG)(af:aM)(ah:aV)(aq:a9)(aB:bA)(aR:b7)(bk:dn)(aw:aH ad af ah aq aB aR bk)(ai:aK ad af ah aq aB aR bk)(a3:p3 ad af ah aq aB aR bk)(bn:a4 ad af ah aq aB aR bk)(bN:bf ad af ah aq aB aR bk)(cw:bq ad af ah aq aB aR bk)(eF:bX ad af ah aq aB aR bk)(hE:cU ad af ah aq aB aR bk)(ia:di ad af ah aq aB aR bk):∃(ad:aG) (af:aM) (ah:aV) (aq:a9) (aB:bA) (aR:b7) (bk:dn),aH ad af ah aq aB aR bk/\aK ad af ah aq aB aR bk/\p3 ad af ah aq aB aR bk/\a4 ad af ah aq aB aR bk/\bf ad af ah aq aB aR bk/\bq ad af ah aq aB aR bk/\bX ad af ah aq aB aR bk/\cU ad af ah aq aB aR bk/\di ad af ah aq aB aR bk:=⟨ad,afC af ah aq aB aR bk aw ai a3 bn bN cw eF hE ia⟩
theorem afI{aG aM aV a9 bA b7 dn me:Type}{aH aK p3 a4 bf bq bX cU di:aG->aM->aV->a9->bA->b7->dn->me->Prop}(ad:aG)(af:aM)(ah:aV)(aq:a9)(aB:bA)(aR:b7)(bk:dn)(c5:me)(aw:aH ad af ah aq aB aR bk c5)(ai:aK ad af ah aq aB aR bk c5)(a3:p3 ad af ah aq aB aR bk c5)(bn:a4 ad af ah aq aB aR bk c5)(bN:bf ad af ah aq aB aR bk c5)(cw:bq ad af ah aq aB aR bk c5)(eF:bX ad af ah aq aB aR bk c5)(hE:cU ad af ah aq aB aR bk c5)(ia:di ad af ah aq aB aR bk c5):∃(ad:aG) (af:aM) (ah:aV) (aq:a9) (aB:bA) (aR:b7) (bk:dn) (c5:me),aH ad af ah aq aB aR bk c5/\aK ad af ah aq aB aR bk c5/\p3 ad af ah aq aB aR bk c5/\a4 ad af ah aq aB aR bk c5/\bf ad af ah aq aB aR bk c5/\bq ad af ah aq aB aR bk c5/\bX ad af ah aq aB aR bk c5/\cU ad af ah aq aB aR bk c5/\di ad af ah aq aB aR bk c5:=⟨ad,afH af ah aq aB aR bk c5 aw ai a3 bn bN cw eF hE ia⟩
theorem afJ{aG aM aV a9 bA b7 dn me FV:Type}{aH aK p3 a4 bf bq bX cU di:aG->aM->aV->a9->bA->b7->dn->me->FV->Prop}(ad:aG)(af:aM)(ah:aV)(aq:a9)(aB:bA)(aR:b7)(bk:dn)(c5:me)(hV:FV)(aw:aH ad af ah aq aB aR bk c5 hV)(ai:aK ad af ah aq aB aR bk c5 hV)(a3:p3 ad af ah aq aB aR bk c5 hV)(bn:a4 ad af ah aq aB aR bk c5 hV)(bN:bf ad af ah aq aB aR bk c5 hV)(cw:bq ad af ah aq aB aR bk c5 hV)(eF:bX ad af ah aq aB aR bk c5 hV)(hE:cU ad af ah aq aB aR bk c5 hV)(ia:di ad af ah aq aB aR bk c5 hV):∃(ad:aG) (af:aM) (ah:aV) (aq:a9) (aB:bA) (aR:b7) (bk:dn) (c5:me) (hV:FV),aH ad af ah aq aB aR bk c5 hV/\aK ad af ah aq aB aR bk c5 hV/\p3 ad af ah aq aB aR bk c5 hV/\a4 ad af ah aq aB aR bk c5 hV/\bf ad af ah aq aB aR bk c5 hV/\bq ad af ah aq aB aR bk c5 hV/\bX ad af ah aq aB aR bk c5 hV/\cU ad af ah aq aB aR bk c5 hV/\di ad af ah aq aB aR bk c5 hV:=⟨ad,afI af ah aq aB aR bk c5 hV aw ai a3 bn bN cw eF hE ia⟩
theorem bO{a b c:Nat}(h:a<=b)(d:Nat.ble b c=true:=by rfl):a<=c:=Nat.le_trans h (Nat.le_of_ble_eq_true d)
theorem hO{a b c:Nat}(h:a<=b)(d:Nat.ble (b+1) c=true:=by rfl):a<c:=Nat.lt_of_le_of_lt h (Nat.le_of_ble_eq_true d)
theorem g0{a b k c:Nat}(e:a=b)(h:b<=k)(d:Nat.ble k c=true:=by rfl):a<=c:=e▸bO h d
theorem eN{a b c:Nat}(h:a<=b)(d:Nat.ble b c=true:=by rfl):0+a<=c:=(Nat.zero_add a).symm▸bO h d
theorem tx{a b k c:Nat}(e:a=b)(h:b<=k)(d:Nat.ble k c=true:=by rfl):0+a<=c:=(Nat.zero_add a).symm▸g0 e h d
theorem pk{i a b:Nat}(h:i<b)(e:a=b):i<a:=e▸h
theorem ra{a b k c:Nat}(h:a<=b)(ai:b<=k)(d:Nat.ble k c=true:=by rfl):a<=c:=Nat.le_trans h (bO ai d)
theorem adq{a b k c:Nat}(h:a<b)(ai:b<=k)(d:Nat.ble k c=true:=by rfl):a<c:=Nat.lt_of_lt_of_le h (bO ai d)
theorem jc{a b k c:Nat}(h:a<b)(ai:b<=k)(d:Nat.ble k (c+1)=true:=by rfl):a<=c:=Nat.le_of_lt_succ (adq h ai d)
theorem sT{a b k c:Nat}(h:a<=b)(d:Nat.ble (b+k) c=true:=by rfl):a+k<=c:=Nat.le_trans (Nat.add_le_add_right h k) (Nat.le_of_ble_eq_true d)
theorem EV{a b n:Nat}(h:a<=b)(d:Nat.ble b n=true:=by rfl):(a:Int)<=(OfNat.ofNat n:Int):=Int.ofNat_le.mpr (bO h d)
theorem afK{a b n:Nat}(h:a<=b)(d:Nat.ble (b+1) n=true:=by rfl):(a:Int)<(OfNat.ofNat n:Int):=Int.ofNat_lt.mpr (hO h d)
theorem ea{α:Type}{c:Prop}[Decidable c]{a b:α}(h:(if c then some a else none)=some b):c/\a=b:=by
 by_cases q:c
 ·rw[if_pos q] at h;exact⟨q,Option.some.inj h⟩
 ·rw[if_neg q] at h;exact nomatch h
theorem ns{α:Type}{a:α}{P:Prop}(h:none=some a):P:=nomatch h
theorem sn{α:Type}{a:α}{P:Prop}(h:some a=none):P:=nomatch h
noncomputable abbrev bD:Program:=PySem.Challenge.pw_nz0525_01
set_option genInjectivity true in
structure nb where
 params:Arguments
 body:List Stmt
 scope:Scope
 deriving Inhabited
noncomputable def ha{β:Type}(e:Expr)(d:β)(bo:BoolOp->List Expr->β:=fun Z Z=>d)(bi:Expr->Operator->Expr->β:=fun Z Z Z=>d)(un:UnaryOp->Expr->β:=fun Z Z=>d)(la:Arguments->Expr->Scope->β:=fun Z Z Z=>d)(mh:Expr->Expr->Expr->β:=fun Z Z Z=>d)(lg:List (Option Expr)->List Expr->β:=fun Z Z=>d)(lc:Expr->List Comprehension->Scope->Pos->β:=fun Z Z Z Z=>d)(cp:Expr->List CmpOp->List Expr->β:=fun Z Z Z=>d)(ca:Expr->List Expr->List Keyword->Pos->β:=fun Z Z Z Z=>d)(fv:Expr->Int->Option Expr->β:=fun Z Z Z=>d)(js:List Expr->β:=fun Z=>d)(co:Const->β:=fun Z=>d)(lh:Expr->Str->Pos->β:=fun Z Z Z=>d)(mi:Expr->Expr->β:=fun Z Z=>d)(nn:Str->Pos->β:=fun Z Z=>d)(li:List Expr->β:=fun Z=>d)(mj:List Expr->β:=fun Z=>d):β:=
 Expr.casesOn (motive_1:=fun Z=>β) e (fun o v Z=>bo o v) (fun Z Z Z=>d) (fun a o b Z=>bi a o b) (fun o a Z=>un o a) (fun a b s Z=>la a b s) (fun a b c Z=>mh a b c) (fun k v Z=>lg k v) (fun Z Z Z=>d) (fun x g s p=>lc x g s p) (fun Z Z Z Z=>d) (fun Z Z Z Z Z=>d) (fun Z Z Z Z=>d) (fun Z Z=>d) (fun Z Z=>d) (fun Z Z=>d) (fun l o r Z=>cp l o r) (fun f a k p=>ca f a k p) (fun v c s Z=>fv v c s) (fun v Z=>js v) (fun c Z Z=>co c) (fun v a p=>lh v a p) (fun v s Z=>mi v s) (fun Z Z=>d) (fun s p=>nn s p) (fun l Z=>li l) (fun l Z Z=>mj l) (fun Z Z Z Z=>d)
noncomputable def Af{β:Type}(e:Stmt)(d:β)(fd:Arguments->List Stmt->Scope->β:=fun Z Z Z=>d)(cd:List Stmt->β:=fun Z=>d)(re:Option Expr->β:=fun Z=>d)(as:List Expr->Expr->β:=fun Z Z=>d)(OW:Expr->Operator->Expr->β:=fun Z Z Z=>d)(fo:Expr->Expr->List Stmt->List Stmt->Pos->β:=fun Z Z Z Z Z=>d)(OX:Expr->List Stmt->List Stmt->Pos->β:=fun Z Z Z Z=>d)(ii:Expr->List Stmt->List Stmt->β:=fun Z Z Z=>d)(ex:Expr->β:=fun Z=>d):β:=
 Stmt.casesOn (motive_2:=fun Z=>β) e (fun Z a b Z Z Z s Z Z Z=>fd a b s) (fun Z Z Z Z Z Z Z Z Z Z=>d) (fun Z Z Z b Z Z Z Z Z Z Z=>cd b) (fun e Z=>re e) (fun Z Z=>d) (fun t e Z=>as t e) (fun Z Z Z Z Z Z Z=>d) (fun t o e Z=>OW t o e) (fun Z Z Z Z Z=>d) (fun t i b c p=>fo t i b c p) (fun Z Z Z Z Z=>d) (fun e b c p=>OX e b c p) (fun e b c Z=>ii e b c) (fun Z Z Z=>d) (fun Z Z Z=>d) (fun Z Z Z=>d) (fun Z Z Z=>d) (fun Z Z Z Z Z=>d) (fun Z Z Z Z Z=>d) (fun Z Z Z=>d) (fun Z Z=>d) (fun Z Z Z Z=>d) (fun Z Z=>d) (fun Z Z=>d) (fun e Z=>ex e) (fun Z=>d) (fun Z=>d) (fun Z=>d)
noncomputable def NP(s:Option Stmt):nb:=match s with|some s=>Af s default (fd:=nb.mk)|none=>default
noncomputable def bd(i:Nat):nb:=NP bD.main.body[i]?
noncomputable def oX(i j:Nat):nb:=match bD.main.body[i]? with
 | some s=>Af s default (cd:=fun b=>NP b[j]?)
 | none=>default
noncomputable def fdOf(n q:Str)(d:nb)(c:Addr)(eO pm:Value):FuncData:=
 {name:=n,qualname:=q,params:=d.params,body:=.stmts d.body,scope:=d.scope,globals:=mainGlobals,closure:=[],defaults:=eO,kwdefaults:=.none,pyModule:=pm,code:=.ref c,builtins:=builtinsNs}
noncomputable abbrev jw(n q:Str)(d:nb)(c:Addr)(eO pm:Value):Obj:={cls:=.type "function",data:=.func (fdOf n q d c eO pm)}
structure bV where
 name:Str
 i:Nat
 a:Addr
 c:Addr
 eO:Value
noncomputable def rows:List bV:=[
 ⟨"gcd",5,31,30,Value.none⟩,
 ⟨"make",6,38,37,Value.none⟩,
 ⟨"from_int",7,45,44,Value.none⟩,
 ⟨"is_na",8,52,51,Value.none⟩,
 ⟨"is_finite",9,59,58,Value.none⟩,
 ⟨"neg",10,66,65,Value.none⟩,
 ⟨"to_whole",11,73,72,Value.none⟩,
 ⟨"nearest_whole",12,80,79,Value.none⟩,
 ⟨"exponent",13,87,86,Value.none⟩,
 ⟨"compare",14,94,93,Value.none⟩,
 ⟨"whole_text",17,101,100,Value.none⟩,
 ⟨"special_text",18,108,107,Value.none⟩,
 ⟨"scaled",19,115,114,Value.none⟩,
 ⟨"significant",20,122,121,Value.none⟩,
 ⟨"without_tail",21,129,128,Value.none⟩,
 ⟨"scientific_text",22,136,135,Value.none⟩,
 ⟨"fixed_text",23,143,142,Value.none⟩,
 ⟨"measures",24,150,149,Value.none⟩,
 ⟨"chosen_form",25,157,156,Value.none⟩,
 ⟨"formed",26,164,163,Value.none⟩,
 ⟨"common_texts",27,169,168,Value.none⟩,
 ⟨"number_text",28,177,176,Value.ref 170⟩,
 ⟨"decimal_places",29,184,183,Value.none⟩,
 ⟨"exact_text",30,191,190,Value.none⟩,
 ⟨"digits_value",31,198,197,Value.none⟩,
 ⟨"digit_run",32,205,204,Value.none⟩,
 ⟨"exponent_value",33,212,211,Value.none⟩,
 ⟨"powered",34,219,218,Value.none⟩,
 ⟨"unsigned_number",35,226,225,Value.none⟩,
 ⟨"parse_number",36,233,232,Value.none⟩,
 ⟨"room",44,322,321,Value.none⟩,
 ⟨"integer",45,329,328,Value.none⟩,
 ⟨"character",46,336,335,Value.none⟩,
 ⟨"length",47,343,342,Value.none⟩,
 ⟨"is_atomic",48,350,349,Value.none⟩,
 ⟨"share",49,357,356,Value.none⟩,
 ⟨"get_attr",51,364,363,Value.none⟩,
 ⟨"label_text",52,371,370,Value.none⟩,
 ⟨"level_at",53,378,377,Value.none⟩,
 ⟨"label_texts",54,383,382,Value.none⟩,
 ⟨"names_of",55,388,387,Value.none⟩,
 ⟨"dim_of",56,395,394,Value.none⟩,
 ⟨"dimnames_of",57,400,399,Value.none⟩,
 ⟨"class_attr",58,407,406,Value.none⟩,
 ⟨"kind_order",61,414,413,Value.none⟩,
 ⟨"common_kind",62,421,420,Value.none⟩,
 ⟨"note",63,428,427,Value.none⟩,
 ⟨"as_logical_text",64,435,434,Value.none⟩,
 ⟨"double_to_integer",65,442,441,Value.none⟩,
 ⟨"text_to_double",66,449,448,Value.none⟩,
 ⟨"to_logical",67,456,455,Value.none⟩,
 ⟨"to_integer",68,463,462,Value.none⟩,
 ⟨"to_double",69,470,469,Value.none⟩,
 ⟨"to_text",70,477,476,Value.none⟩,
 ⟨"item_as",71,484,483,Value.none⟩,
 ⟨"is_atomic_kind",72,491,490,Value.none⟩,
 ⟨"list_item_as",73,498,497,Value.none⟩,
 ⟨"refuse_type",74,505,504,Value.none⟩,
 ⟨"as_vector_kind",75,510,509,Value.none⟩,
 ⟨"with_names",76,517,516,Value.none⟩,
 ⟨"as_kind",77,522,521,Value.none⟩,
 ⟨"as_list",78,529,528,Value.none⟩,
 ⟨"is_lacking",80,536,535,Value.none⟩,
 ⟨"compare_items",81,543,542,Value.none⟩,
 ⟨"check_sortable",82,550,549,Value.none⟩,
 ⟨"compare_places",83,557,556,Value.none⟩,
 ⟨"compare_keys",84,564,563,Value.none⟩,
 ⟨"merge_runs",85,571,570,Value.none⟩,
 ⟨"merge_sort",86,576,575,Value.none⟩,
 ⟨"each_key",87,581,580,Value.none⟩,
 ⟨"kept_places",88,588,587,Value.none⟩,
 ⟨"order_by",89,596,595,Value.ref 589⟩,
 ⟨"is_factor",91,603,602,Value.none⟩,
 ⟨"new_frame",92,608,607,Value.none⟩,
 ⟨"plain_rows",93,615,614,Value.none⟩,
 ⟨"frame_rows",94,622,621,Value.none⟩,
 ⟨"column_names",95,627,626,Value.none⟩,
 ⟨"kept_attrs",96,634,633,Value.none⟩,
 ⟨"lacking",97,641,640,Value.none⟩,
 ⟨"pick_items",98,648,647,Value.none⟩,
 ⟨"joined_factor",100,655,654,Value.none⟩,
 ⟨"joined_column",101,660,659,Value.none⟩,
 ⟨"column_keys",103,665,664,Value.none⟩,
 ⟨"row_keys",104,670,669,Value.none⟩,
 ⟨"check_by",105,677,676,Value.none⟩,
 ⟨"matched_pairs",106,684,683,Value.none⟩,
 ⟨"lone_places",107,689,688,Value.none⟩,
 ⟨"all_pairs",108,696,695,Value.none⟩,
 ⟨"merged_pairs",109,703,702,Value.none⟩,
 ⟨"key_column",110,710,709,Value.none⟩,
 ⟨"other_names",111,717,716,Value.none⟩,
 ⟨"sort_key",112,724,723,Value.none⟩,
 ⟨"merge_order",113,729,728,Value.none⟩,
 ⟨"merge_frames",114,735,734,Value.ref 730⟩,
 ⟨"_law_pick",116,742,741,Value.none⟩,
 ⟨"_law_column",117,747,746,Value.none⟩,
 ⟨"_law_frame_of",118,754,753,Value.none⟩,
 ⟨"_law_is_factor",119,761,760,Value.none⟩,
 ⟨"_law_texts",120,766,765,Value.none⟩,
 ⟨"_law_plain",121,773,772,Value.none⟩,
 ⟨"_law_less",122,780,779,Value.none⟩,
 ⟨"_law_sorted",123,787,786,Value.none⟩,
 ⟨"_law_before",124,794,793,Value.none⟩,
 ⟨"law",125,799,798,Value.none⟩]
noncomputable def ent(P:Params)(n:String)(t:Nat)(v:Value):DictEntry:={hash:=PyData.keyHash P (Str.ofString n),key:=.str (Str.ofString n) t,val:=v}
noncomputable def KF(P:Params):Frag:=[
 (170,{cls:=.type "tuple",data:=.seq #[.int 7 404]}),
 (294,{cls:=.type "tuple",data:=.seq #[.none]}),
 (589,{cls:=.type "tuple",data:=.seq #[.bool false,.bool true]}),
 (730,{cls:=.type "tuple",data:=.seq #[.bool true]}),
 (311,{cls:=.type "type",data:=.cls {name:="Vector",bases:=[.type "object"],mro:=[.ref 311,.type "object"],ns:=310,qualname:="Vector"},slots:=#[none,none,some (.str "Vector" 580),some (.str "Vector" 588),some (.builtin "object.__new__"),some (.bool true)]}),
 (310,{cls:=.type "dict",data:=.dict #[ent P "__module__" 587 (.str "vectorcove.values" 547),ent P "__firstlineno__" 591 (.int 285 590),ent P "__init__" 601 (.ref 301),ent P "copy" 608 (.ref 308),
  ent P "__static_attributes__" 614 (.ref 309),ent P "__dict__" 616 (.ref 312),ent P "__weakref__" 618 (.ref 313),ent P "__doc__" 619 .none] 4}),
 (301,jw "__init__" "Vector.__init__" (oX 43 0) 300 (.ref 294) (.str "vectorcove.values" 547)),
 (300,{cls:=.type "code",data:=.fields #[.str "__init__" 592,.str "Vector.__init__" 593,.str "/claim/cut.py" 594,.int 287 0,.int 4 0,.int 0 0,.int 0 0,.int 3 0,.ref 295,.bool true,.int 181 0,.ref 296,.none,
  .ref 297,.ref 298,.ref 299,.int 599 0,.int 287 0,.str "/claim/cut.py" 600]}),
 (243,{cls:=.type "type",data:=.cls {name:="CoveError",bases:=[.type "Exception"],mro:=[.ref 243,.type "Exception",.type "BaseException",.type "object"],ns:=242,qualname:="CoveError",subclasses:=[.ref 263]},slots:=#[some (.ref 234),none,some (.str "CoveError" 502),some (.str "CoveError" 510),some (.builtin "Exception.__new__"),some (.bool true)]}),
 (242,{cls:=.type "dict",data:=.dict #[ent P "__module__" 509 (.str "vectorcove.errors" 500),ent P "__firstlineno__" 513 (.int 272 512),ent P "__static_attributes__" 514 (.ref 241),ent P "__weakref__" 516 (.ref 244),ent P "__doc__" 517 .none] 3}),
 (263,{cls:=.type "type",data:=.cls {name:="Refusal",bases:=[.ref 243],mro:=[.ref 263,.ref 243,.type "Exception",.type "BaseException",.type "object"],ns:=262,qualname:="Refusal"},slots:=#[some (.ref 247),none,some (.str "Refusal" 522),some (.str "Refusal" 530),some (.builtin "Exception.__new__"),some (.bool true)]}),
 (262,{cls:=.type "dict",data:=.dict #[ent P "__module__" 529 (.str "vectorcove.errors" 500),ent P "__firstlineno__" 533 (.int 274 532),ent P "__init__" 541 (.ref 260),ent P "__static_attributes__" 543 (.ref 261),ent P "__doc__" 544 .none] 2}),
 (260,jw "__init__" "Refusal.__init__" (oX 39 0) 259 .none (.str "vectorcove.errors" 500)),
 (259,{cls:=.type "code",data:=.fields #[.str "__init__" 534,.str "Refusal.__init__" 535,.str "/claim/cut.py" 536,.int 276 0,.int 2 0,.int 0 0,.int 0 0,.int 3 0,.ref 254,.bool true,.int 181 0,.ref 255,.none,
  .ref 256,.ref 257,.ref 258,.int 539 0,.int 276 0,.str "/claim/cut.py" 540]}),
 (2,{cls:=.none,data:=.dict #[ent P "type.__subclasses__.Exception.0" 518 (.int 243 0),ent P "type.__subclasses__.Exception.n" 519 (.int 1 0)] 2}),
 (798,{cls:=.type "code",data:=.fields #[.str "law" 1252,.str "law" 1253,.str "/claim/cut.py" 1254,.int 805 0,.int 1 0,.int 0 0,.int 0 0,.int 3 0,.ref 795,.bool true,.int 181 0,.ref 796,.none,.none,.none,
  .ref 797,.int 1255 0,.int 805 0,.str "/claim/cut.py" 1256]})]
noncomputable def sr(o:Obj):Obj:=match o with
 | ⟨c,d,.func fd,sl⟩=>⟨c,d,.func {fd with pyModule:=.none},sl⟩
 | o=>o
noncomputable def yH(o:Obj):Option Str:=match o.data with
 | .fields ae=>(match (ae[1]?:Option Value) with|some (Value.str n _)=>some n|_=>none)
 | Z=>none
noncomputable def intOf?(v:Value):Option Int:=match v with|.int k _=>some k|_=>none
theorem To{o:Obj}{n q:Str}{d:nb}{c:Addr}{eO:Value}(h:sr o=jw n q d c eO .none):∃pm,o=jw n q d c eO pm:=by
 obtain⟨cl,lg,FW,sl⟩:=o
 cases FW with
 | func fd=>
  obtain⟨a1,a2,jT,pE,ahJ,ajY,ajZ,aj0,aj1,ajm,afL,ajn,ajo,ajp,ajq⟩:=fd
  refine⟨afL,?_⟩
  simp only[sr,jw,fdOf,Obj.mk.injEq,Data.func.injEq,FuncData.mk.injEq] at h ⊢
  simp_all
 | _=>simp[sr,jw] at h
noncomputable def wW:List Addr:=[170,294,589,730,311,310,301,300,243,242,263,262,260,259,2,798]
noncomputable def y0:List Str:=["len","range","str","abs","isinstance","max","min","sum","list","tuple","divmod"]
noncomputable def obs(s:Shared):Bool×List (Option Value×Option Obj×Option (Option Str))×List (Option Value)×Option (Option Int)×List (Option Obj)×Option Obj:=
 (
  s.heap.isNs mainGlobals,rows.map (fun r=>(s.heap.nsMap mainGlobals r.name,(s.heap.get? r.a).map sr,(s.heap.get? r.c).map yH)),
  [s.heap.nsMap mainGlobals "Vector",s.heap.nsMap mainGlobals "Refusal"]++y0.map (s.heap.nsMap mainGlobals),(s.heap.nsMap mainGlobals "MOST_LENGTH").map intOf?,wW.map s.heap.get?,s.heap.get? 796)
noncomputable def val(w:World):Bool×List (Option Value×Option Obj×Option (Option Str))×List (Option Value)×Option (Option Int)×List (Option Obj)×Option Obj:=
 (
  true,rows.map (fun r=>(some (.ref r.a),some (jw r.name r.name (bd r.i) r.c r.eO .none),some (some r.name))),
  [some (.ref 311),some (.ref 263)]++y0.map (fun Z=>none),some (some 1000000),(KF w.params).map (fun p=>some p.2),some (tabObj #[]))
theorem Kk(P:Params):wW=(KF P).map (·.1):=by kernel_rfl!
structure rc(w:World)(h:Heap)(m:Str->Option Value):Prop where
 ns:h.Ns mainGlobals m
 nm:∀r∈rows,m r.name=some (.ref r.a)
 fn:∀r∈rows,∃pm,h.get? r.a=some (jw r.name r.name (bd r.i) r.c r.eO pm)
 cd:∀r∈rows,h.CodeRec (.ref r.c) r.name
 vec:m "Vector"=some (.ref 311)
 ref:m "Refusal"=some (.ref 263)
 free:∀x∈y0,m x=none
 len:∃t,m "MOST_LENGTH"=some (.int 1000000 t)
 K:(KF w.params).In h
 tab:h.get? 796=some (tabObj #[])
set_option tactic.hygienic true in
theorem Vs{w:World}{s:Shared}(h:obs s=val w):rc w s.heap (s.heap.nsMap mainGlobals):=by
 refine bS (Prod.mk.inj h) fun aw ai=>?_
 refine bS (Prod.mk.inj ai) fun ai a3=>?_
 refine bS (Prod.mk.inj a3) fun a3 bn=>?_
 refine bS (Prod.mk.inj bn) fun bn bN=>?_
 refine bS (Prod.mk.inj bN) fun bN cw=>?_
 have row:∀r∈rows,(s.heap.nsMap mainGlobals r.name,(s.heap.get? r.a).map sr,(s.heap.get? r.c).map yH)=(some (.ref r.a),some (jw r.name r.name (bd r.i) r.c r.eO .none),some (some r.name)):=
  List.map_inj_left.mp ai
 refine⟨.of_isNs aw,fun r aA=>(Prod.mk.inj (row r aA)).1,fun r aA=>?_,fun r aA=>?_,?_,?_,?_,?_,?_,cw⟩
 ·refine aW (Option.map_eq_some_iff.mp (Prod.mk.inj (Prod.mk.inj (row r aA)).2).1) fun o ho aS=>?_
  obtain⟨pm,rfl⟩:=To aS
  exact⟨pm,ho⟩
 ·refine aW (Option.map_eq_some_iff.mp (Prod.mk.inj (Prod.mk.inj (row r aA)).2).2) fun o ho aS=>?_
  unfold yH at aS
  split at aS
  ·rename_i ae hd
   split at aS
   ·rename_i n t aP
    obtain rfl:=Option.some.inj aS
    exact hy _ o ae t rfl ho hd aP
   ·injection aS
  ·injection aS
 ·exact(List.cons.inj a3).1
 ·exact(List.cons.inj (List.cons.inj a3).2).1
 ·exact List.map_inj_left.mp (List.cons.inj (List.cons.inj a3).2).2
 ·refine aW (Option.map_eq_some_iff.mp bn) fun v aP aS=>?_
  unfold intOf? at aS
  split at aS
  ·rename_i k t
   obtain rfl:=Option.some.inj aS
   exact⟨t,aP⟩
  ·exact ns aS
 ·exact InK.of (K:=KF) (as:=wW) (fun P=>Kk P) w s bN
theorem rc.keeps{w:World}{h aC:Heap}{m:Str->Option Value}(S:rc w h m)(k:∀b o,h.get? b=some o->aC.get? b=some o):rc w aC m:=
 ⟨S.ns.keeps k,S.nm,fun r aA=>let ⟨pm,e⟩:=S.fn r aA;⟨pm,k _ _ e⟩,fun r aA=>(S.cd r aA).keeps k,S.vec,S.ref,S.free,S.len,InK.keeps w h aC S.K k,k _ _ S.tab⟩
noncomputable def hook:Hook:=⟨_,obs,val,fun w h=>∃m,rc w h m,fun Z Z h=>⟨_,Vs h⟩,fun Z Z Z ⟨m,h⟩ k=>⟨m,h.keeps k⟩⟩
noncomputable def Cb(p:Program)(w:World)(pF:Nat)(ann:Option Value)(n:Nat):SharedT->Thread->Option SharedT:=
 @Nat.rec (fun Z=>SharedT->Thread->Option SharedT) (fun Z Z=>none) (fun Z c9 s t=>match through t with
  | true=>some s
  | false=>match PySem.W.Fast.tw6613529449190102663 pF ann t with
   | false=>none
   | true=>match PySem.W.Fast.tw10156331382660048174 (PySem.W.Fast.tw11892475500146522536 treeTable) p w s t with
    | some (bP,t')=>c9 bP t'
    | none=>none) n
theorem HJ{p:Program}{w:World}{pF:Nat}{ann:Option Value}:∀(n:Nat) (s:SharedT) (t:Thread) (bP:SharedT),Cb p w pF ann n s t=some bP->topRun treeTable p w pF ann n s.abs t=some bP.abs
 | 0,Z,bt,cD,h=>by exact ns h
 | n+1,s,t,bP,h=>by
  have aC:(match through t with
   | true=>some s
   | false=>match PySem.W.Fast.tw6613529449190102663 pF ann t with
    | false=>none
    | true=>match PySem.W.Fast.tw10156331382660048174 (PySem.W.Fast.tw11892475500146522536 treeTable) p w s t with
     | some (bP,t')=>Cb p w pF ann n bP t'
     | none=>none)=some bP:=h
  replace aC:=PySem.W.Fast.te11892475500146522536.symm▸PySem.W.Fast.te10156331382660048174.symm▸PySem.W.Fast.te6613529449190102663.symm▸aC
  unfold topRun
  cases ht:through t with
  | true=>replace aC:=ht▸aC;cases aC;rfl
  | false=>
   replace aC:=ht▸aC
   cases av:stepOk pF ann t with
   | false=>replace aC:=av▸aC;cases aC
   | true=>
    replace aC:=av▸aC
    cases hs:stepT (denote treeTable) p w s t with
    | none=>replace aC:=hs▸aC;cases aC
    | some r=>
     obtain⟨oq,dz⟩:=r
     replace aC:=hs▸aC
     exact(stepT_spec hs).symm▸(HJ n oq dz bP aC)
noncomputable def NQ:List Obj->Nat->BT->BT
 | [],Z,t=>t
 | o::l,i,t=>NQ l (i+1) (t.ins i o)
noncomputable def C4(P:Params):BT:=NQ (boot_heap P).objs.toList 0 .nil
noncomputable def LV(w:World)(os:OsState):SharedT:=⟨C4 w.params,11,{},#[],boot_drawn,boot_toks,os⟩
theorem Vt(P:Params):absHeap (C4 P) 11 {}=boot_heap P:=by kernel_rfl!
noncomputable def mF:List Str:=((rows.map (·.name)).filter fun n=>n != ("law":Str))++(["_wall","NAN","INF","ZERO","MOST_EXPONENT","CoveError","Refusal","MOST_LENGTH","Null","Vector","MOST_INTEGER"]:List Str)
noncomputable def lj:Program:=view bD [125]
noncomputable abbrev ahK:OpenRow:=PySem.Challenge.rw_nz0525_01.row
noncomputable def tA(s:Shared):Bool:=xlAt lj [] s&&recOk (RowW.records ahK.toRowW) s
noncomputable def zN(Ag:Heap)(s:Shared):Bool:=staticsOk (importedModules bD.main.body) Ag s.heap&&namesBound bD s.heap&&gensDone s&&laidKept Ag s.heap
noncomputable abbrev zi(w:World)(os:OsState):Option SharedT:=Cb bD w 11 (some (.ref 6)) 9000 (LV w os) (topStub bD)
noncomputable def wX(get:Addr->Option Obj)(x:Str):Option Value:=match get mainGlobals with
 | some o=>(match o.data with|.dict bw _=>nsFind bw x|_=>none)
 | none=>none
noncomputable def afM(get:Addr->Option Obj):Bool:=match get mainGlobals with
 | some o=>(match o.data with|.dict bw _=>bw.all (fun e=>match e.key with|.str _ _=>true|_=>false)|_=>false)
 | none=>false
noncomputable def DU(get:Addr->Option Obj):Bool×List (Option Value×Option Obj×Option (Option Str))×List (Option Value)×Option (Option Int)×List (Option Obj)×Option Obj:=
 (
  afM get,rows.map (fun r=>(wX get r.name,(get r.a).map sr,(get r.c).map yH)),
  [wX get "Vector",wX get "Refusal"]++y0.map (wX get),(wX get "MOST_LENGTH").map intOf?,wW.map get,get 796)
noncomputable def wg(s:SharedT)(a:Addr):Option Obj:=match Nat.blt a s.n with
 | true=>alive (match s.tree.get a with|some o=>o|none=>default)
 | false=>none
theorem Vu(s:SharedT):s.abs.heap.get?=wg s:=by
 funext a
 show (absHeap s.tree s.n s.life).get? a=_
 unfold Heap.get? wg
 rw[absHeap_at]
 by_cases h:a<s.n
 ·rw[if_pos h]
  refine(show Nat.blt a s.n=true from Nat.ble_eq.mpr h).symm▸?_
  cases s.tree.get a with
  | none=>rfl
  | some o=>
   obtain⟨c,d,FW,sl⟩:=o
   cases FW <;> rfl
 ·rw[if_neg h]
  cases e:Nat.blt a s.n with
  | true=>exact absurd (Nat.ble_eq.mp e) h
  | false=>rfl
noncomputable def Y8(Ag:Heap)(fL:SharedT):=(zN Ag fL.abs,PySem.W.Fast.tw4187177175401517315 lj mF (importedModules bD.main.body) tA true fL.abs,DU (wg fL))
theorem big(w:World)(os:OsState):(zi w os).map (fun fL=>Y8 (boot_heap w.params) fL)=some (true,openGood lj mF,val w):=by kernel_rfl
theorem adr(w:World)(os:OsState):∃fL,zi w os=some fL/\zN (boot_heap w.params) fL.abs=true/\PySem.W.Fast.tw4187177175401517315 lj mF (importedModules bD.main.body) tA true fL.abs=openGood lj mF/\DU (wg fL)=val w:=by
 obtain⟨fL,aA,aF⟩:=Option.map_eq_some_iff.mp (big w os)
 obtain⟨kz,iP⟩:=Prod.mk.inj aF
 obtain⟨iP,jm⟩:=Prod.mk.inj iP
 exact⟨fL,aA,kz,iP,jm⟩
theorem Y9{w:World}{fL:SharedT}(jm:DU (wg fL)=val w):hook.obs fL.abs=hook.val w:=by
 rw[<- Vu] at jm
 exact jm
theorem Za{fL:SharedT}(iP:PySem.W.Fast.tw4187177175401517315 lj mF (importedModules bD.main.body) tA true fL.abs=openGood lj mF):openSeen lj mF (importedModules bD.main.body) tA true fL.abs=openGood lj mF:=by
 have aD:PySem.W.Fast.tw4187177175401517315=openSeen:=PySem.W.Fast.te4187177175401517315.symm
 rw[aD] at iP
 exact iP
theorem ads{w:World}{os:OsState}{fL:SharedT}(aA:zi w os=some fL):topRun treeTable bD w 11 (some (.ref 6)) 9000 ⟨boot_heap w.params,#[],boot_drawn,boot_toks,os⟩ (topStub bD)=some fL.abs:=by
 have r:=HJ 9000 _ _ _ aA
 have aS:(LV w os).abs=⟨boot_heap w.params,#[],boot_drawn,boot_toks,os⟩:=by
  show Shared.mk (absHeap (C4 w.params) 11 {}) _ _ _ _=_
  rw[Vt];rfl
 rw[aS] at r
 exact r
theorem adt{w:World}{os:OsState}{fL:SharedT}(aA:zi w os=some fL)(kz:zN (boot_heap w.params) fL.abs=true):topFrom treeTable bD w 9000 ⟨boot_heap w.params,#[],boot_drawn,boot_toks,os⟩=some fL.abs:=by
 have r:=ads aA
 have dH:((boot_heap w.params).isNs mainGlobals&&(#[]:Array GenState).size==0)=true:=by kernel_rfl
 have bt:(boot_heap w.params).objs.size=11:=by kernel_rfl
 have cD:(boot_heap w.params).nsMap mainGlobals "__annotations__"=some (.ref 6):=by kernel_rfl
 unfold topFrom
 dsimp only
 rw[dH,bt,cD,r]
 show (match zN (boot_heap w.params) fL.abs with|true=>_|false=>_)=_
 rw[kz]
theorem left:LeftO bD lj mF tA hook.obs hook.val 9000:=fun w=>by
 obtain⟨⟨h,gs,d,k,os⟩,e,eA⟩:=Option.map_eq_some_iff.mp (boot_open (p:=bD) (N:=9000) (by kernel_rfl) (by decide +kernel) (fun s=>by kernel_rfl) w)
 obtain⟨rfl,rfl,rfl,rfl⟩:h=boot_heap w.params/\gs=#[]/\d=boot_drawn/\k=boot_toks:=by simpa using eA
 obtain⟨fL,aA,kz,iP,jm⟩:=adr w os
 have t:=adt aA kz
 unfold openEnds
 rw[e,Option.bind_some,t,Option.map_some]
 exact congrArg some (Prod.ext (Za iP) (Y9 jm))
section
theorem g4{α:Type}{M:Model}{A:Around}{t:Sem α}{K:α->Shared->Prop}{E:Value->Shared->Prop}{s:Shared}(h:∀xC:α->Shared->Prop,(∀v s,K v s->xC v s)->wpAny M A t xC E s):wpAny M A t K E s:=h K fun Z Z h=>h
theorem MG{α:Type}{M:Model}{A:Around}{t:Sem α}{K:α->Shared->Prop}{E:Value->Shared->Prop}{s:Shared}(h:∀(xC:α->Shared->Prop) (OY:Value->Shared->Prop),(∀v s,K v s->xC v s)->(∀v s,E v s->OY v s)->wpAny M A t xC OY s):wpAny M A t K E s:=h K E (fun Z Z h=>h) fun Z Z h=>h
theorem adu{M:Model}{A:Around}{c:Code}{R:Result->Shared->Prop}{s:Shared}(h:∀jU:Result->Shared->Prop,(∀v s,R v s->jU v s)->codeAny M A c jU s):codeAny M A c R s:=h R fun Z Z h=>h
structure bC(w:World) where
 fc:Heap
 mg:Str->Option Value
 nc:Str->Option Value
 rq:fc.Ns mainGlobals mg
 zO:fc.Ns builtinsNs nc
 nolimit:fc.NoLimit
 nodigits:∃t6,fc.Ns cStatics t6/\t6 "sys.int_max_str_digits"=none
 nm:∀r∈rows,mg r.name=some (.ref r.a)
 fn:∀r∈rows,∃pm,fc.get? r.a=some (jw r.name r.name (bd r.i) r.c r.eO pm)
 cd:∀r∈rows,fc.CodeRec (.ref r.c) r.name
 vec:mg "Vector"=some (.ref 311)
 ref:mg "Refusal"=some (.ref 263)
 len:∃t,mg "MOST_LENGTH"=some (.int 1000000 t)
 K:(KF w.params).In fc
 free:∀x∈(["len","range","str","abs","isinstance","max","min","sum","list","tuple","divmod"]:List Str),mg x=none
 blt:∀x:Str,x≠"__name__"->nc x=bootBuiltins x
 bmain:fc.BuiltinsAt mg 796
noncomputable abbrev hP:=Obj->Prop
noncomputable abbrev G:=Addr->Option hP
noncomputable abbrev f7(o:Obj):Option hP:=some (Eq o)
noncomputable abbrev a7:=List (Addr×Obj)
noncomputable def Ext(g ao:G):Prop:=∀a (o:hP),g a=some o->ao a=some o
theorem Ext.refl(g:G):Ext g g:=fun Z Z e=>e
theorem Ext.trans{a b c:G}(x:Ext a b)(y:Ext b c):Ext a c:=fun p o e=>y p o (x p o e)
variable {w:World}
structure bx(B:bC w)(g:G)(l:a7)(h:Heap):Prop where
 base:∀a o,B.fc.get? a=some o->g a=f7 o
 dJ:∀a (P:hP),g a=some P->∃o,h.get? a=some o/\P o
 own:∀p∈l,h.get? p.1=some p.2
 apart:∀p∈l,g p.1=none
 nodup:(l.map (·.1)).Nodup
theorem bx.perm{B:bC w}{g:G}{l l':a7}{h:Heap}(S:bx B g l h)(p:l.Perm l'):bx B g l' h:=
 ⟨S.base,S.dJ,fun q aL=>S.own q (p.mem_iff.mpr aL),fun q aL=>S.apart q (p.mem_iff.mpr aL),(p.map (·.1)).nodup_iff.mp S.nodup⟩
theorem bx.sub{B:bC w}{g:G}{l l':a7}{h:Heap}(S:bx B g l h)(p:l'.Sublist l):bx B g l' h:=
 ⟨S.base,S.dJ,fun q aL=>S.own q (p.subset aL),fun q aL=>S.apart q (p.subset aL),(p.map (·.1)).nodup S.nodup⟩
theorem bx.lt{B:bC w}{g:G}{l:a7}{h:Heap}(S:bx B g l h){a:Addr}{o:hP}(e:g a=some o):a<h.objs.size:=let ⟨_,x,_⟩:=S.dJ a o e;Heap.lt_size x
theorem bx.I4{B:bC w}{g:G}{l:a7}{h:Heap}(S:bx B g l h):g h.objs.size=none:=by
 cases e:g h.objs.size with
 | none=>rfl
 | some o=>exact absurd (S.lt e) (Nat.lt_irrefl _)
theorem bx.keeps{B:bC w}{g:G}{l:a7}{h aC:Heap}(S:bx B g l h)(k:∀b o,h.get? b=some o->aC.get? b=some o):bx B g l aC:=
 ⟨S.base,fun a o e=>let ⟨x,y,z⟩:=S.dJ a o e;⟨x,k _ _ y,z⟩,fun q aL=>k _ _ (S.own q aL),S.apart,S.nodup⟩
theorem bx.push{B:bC w}{g:G}{l:a7}{h:Heap}(S:bx B g l h)(o:Obj)(hf:o.isFreed=false:=by rfl):bx B g ((h.objs.size,o)::l) (h.push o):=by
 refine⟨S.base,fun a bK e=>let ⟨x,y,z⟩:=S.dJ a bK e;⟨x,Heap.get?_push_of_some _ y,z⟩,fun q aL=>?_,fun q aL=>?_,?_⟩
 ·rcases List.mem_cons.mp aL with rfl|aL
  ·exact Heap.get?_push_size _ hf
  ·exact Heap.get?_push_of_some _ (S.own q aL)
 ·rcases List.mem_cons.mp aL with rfl|aL
  ·exact S.I4
  ·exact S.apart q aL
 ·refine List.nodup_cons.mpr ⟨fun hm=>?_,S.nodup⟩
  refine aW (List.mem_map.mp hm) fun q aL e=>?_
  have:=Heap.lt_size (S.own q aL)
  exact Nat.lt_irrefl _ (e▸this)
noncomputable def put(g:G)(a:Addr)(o:hP):G:=fun b=>if b=a then some o else g b
theorem iE(g:G)(a:Addr)(o:hP):put g a o a=some o:=if_pos rfl
theorem yq{g:G}{a:Addr}{o:hP}(h:g a=none):Ext g (put g a o):=fun b bK e=>by
 by_cases q:b=a
 ·subst q;replace e:=h▸e;exact ns e
 ·exact(if_neg q).trans e
theorem bx.freeze{B:bC w}{g:G}{l:a7}{h:Heap}{a:Addr}{o:Obj}{P:hP}(S:bx B g ((a,o)::l) h)(dj:P o):bx B (put g a P) l h/\Ext g (put g a P):=by
 have bp:=S.apart (a,o) (.head _)
 have i3:=List.nodup_cons.mp S.nodup
 refine⟨⟨fun b bK e=>yq bp b _ (S.base b bK e),fun b bK e=>?_,fun q aL=>S.own q (.tail _ aL),fun q aL=>?_,i3.2⟩,yq bp⟩
 ·unfold put at e
  split at e
  ·rename_i q;subst q;obtain rfl:=Option.some.inj e;exact⟨o,S.own (b,o) (.head _),dj⟩
  ·exact S.dJ b bK e
 ·have:q.1≠a:=fun e=>i3.1 (List.mem_map.mpr ⟨q,aL,e⟩)
  exact(if_neg this).trans (S.apart q (.tail _ aL))
theorem bx.adv{B:bC w}{g:G}{l:a7}{h aC:Heap}{a:Addr}{bK:Obj}{P:hP}(S:bx B g l h)(ga:g a=some P)(hs:Heap.SameBut a h aC)(ho:aC.get? a=some bK)(dj:P bK):bx B g l aC:=by
 refine⟨S.base,fun b x e=>?_,fun q aL=>?_,S.apart,S.nodup⟩
 ·by_cases q:b=a
  ·subst q;replace e:=ga▸e;obtain rfl:=Option.some.inj e;exact⟨bK,ho,dj⟩
  ·refine aW (S.dJ b x e) fun y aD ak=>?_
   exact⟨y,(hs.2 b q).trans aD,ak⟩
 ·have:q.1≠a:=fun e=>by have:=S.apart q aL;replace this:=ga▸e▸this;exact sn this
  exact(hs.2 _ this).trans (S.own q aL)
theorem bx.update{B:bC w}{g:G}{l:a7}{h:Heap}{a:Addr}{o bK:Obj}(S:bx B g ((a,o)::l) h){aC:Heap}(hs:Heap.SameBut a h aC)(ho:aC.get? a=some bK):bx B g ((a,bK)::l) aC:=by
 have bp:=S.apart (a,o) (.head _)
 have i3:=List.nodup_cons.mp S.nodup
 refine⟨S.base,fun b x e=>?_,fun q aL=>?_,fun q aL=>?_,?_⟩
 ·have:b≠a:=by rintro rfl;replace e:=bp▸e;exact ns e
  refine aW (S.dJ b x e) fun y aD ak=>?_
  exact⟨y,(hs.2 b this).trans aD,ak⟩
 ·rcases List.mem_cons.mp aL with rfl|aL
  ·exact ho
  ·have:q.1≠a:=fun e=>i3.1 (List.mem_map.mpr ⟨q,aL,e⟩)
   exact(hs.2 _ this).trans (S.own q (.tail _ aL))
 ·rcases List.mem_cons.mp aL with rfl|aL
  ·exact bp
  ·exact S.apart q (.tail _ aL)
 ·exact List.nodup_cons.mpr i3
noncomputable def dk(n:Nat)(A:Around):Prop:=A.handled=none/\A.depth+n<=900/\A.units+20 * n<=9000
theorem dk.le{n m:Nat}{A:Around}(R:dk n A)(h:m<=n):dk m A:=⟨R.1,by have:=R.2.1;lia,by have:=R.2.2;lia⟩
noncomputable def eG(B:bC w)(n:Nat){α:Type}(t:Sem α)(g:G)(ms:a7)(Q:α->G->a7->Prop):Prop:=
 ∀(A:Around) (E:Value->Shared->Prop) (s:Shared) (R:a7) (K:α->Shared->Prop),dk n A->bx B g (ms++R) s.heap->
  (∀v ao ms' aC t',Q v ao ms'->bx B ao (ms'++R) aC->K v {s with heap:=aC,toks:=t'})->wpAny (model bD w) A t K E s
theorem eG.mono{B:bC w}{n:Nat}{α:Type}{t:Sem α}{g:G}{ms:a7}{Q jV:α->G->a7->Prop}(h:eG B n t g ms Q)(k:∀v ao ms',Q v ao ms'->jV v ao ms'):eG B n t g ms jV:=
 fun A E s R K aI S b0=>h A E s R K aI S fun v ao ms' aC t' q bZ=>b0 v ao ms' aC t' (k _ _ _ q) bZ
theorem eG.le{B:bC w}{n m:Nat}{α:Type}{t:Sem α}{g:G}{ms:a7}{Q:α->G->a7->Prop}(h:eG B m t g ms Q)(hm:m<=n):eG B n t g ms Q:=
 fun A E s R K aI S b0=>h A E s R K (aI.le hm) S b0
theorem eG.frame{B:bC w}{n:Nat}{α:Type}{t:Sem α}{g:G}{ms fr:a7}{Q:α->G->a7->Prop}(h:eG B n t g ms Q):eG B n t g (ms++fr) fun v ao m=>∃ms',m=ms'++fr/\Q v ao ms':=
 fun A E s R K aI S k=>h A E s (fr++R) K aI (by rw[<- List.append_assoc];exact S) fun v ao ms' aC t' q bZ=>k v ao (ms'++fr) aC t' ⟨ms',rfl,q⟩ (by rw[List.append_assoc];exact bZ)
theorem eG.perm{B:bC w}{n:Nat}{α:Type}{t:Sem α}{g:G}{ms ms':a7}{Q:α->G->a7->Prop}(p:ms.Perm ms')(h:eG B n t g ms' Q):eG B n t g ms Q:=
 fun A E s R K aI S k=>h A E s R K aI (S.perm (p.append_right R)) k
structure cB(B:bC w)(L:Addr)(m:Str->Option Value)(g:G)(l:a7)(h:Heap):Prop where
 cb:bx B g l h
 ns:h.Ns L m
 pG:g L=none
 ot:∀p∈l,p.1≠L
theorem cB.open{B:bC w}{L:Addr}{m:Str->Option Value}{g:G}{l:a7}{h:Heap}(F:cB B L m g l h):∃o,bx B g ((L,o)::l) h/\∀aC:Heap,aC.get? L=some o->aC.Ns L m:=by
 refine iJ F.ns fun o bw ep ho r=>?_
 refine⟨o,⟨F.cb.base,F.cb.dJ,fun q aL=>?_,fun q aL=>?_,?_⟩,fun aC e=>tv o bw ep e r⟩
 ·rcases List.mem_cons.mp aL with rfl|aL
  ·exact ho
  ·exact F.cb.own q aL
 ·rcases List.mem_cons.mp aL with rfl|aL
  ·exact F.pG
  ·exact F.cb.apart q aL
 ·refine List.nodup_cons.mpr ⟨fun hm=>?_,F.cb.nodup⟩
  refine aW (List.mem_map.mp hm) fun q aL e=>?_
  exact F.ot q aL e
theorem cB.close{B:bC w}{L:Addr}{m:Str->Option Value}{g:G}{l:a7}{h:Heap}{o:Obj}(S:bx B g ((L,o)::l) h)(hn:h.Ns L m):cB B L m g l h:=
 ⟨S.sub (List.sublist_cons_self _ _),hn,S.apart (L,o) (.head _),fun q aL e=>(List.nodup_cons.mp S.nodup).1 (List.mem_map.mpr ⟨q,aL,e⟩)⟩
noncomputable def da(B:bC w)(n:Nat)(L:Addr){α:Type}(t:Sem α)(m:Str->Option Value)(g:G)(ms:a7)(Q:α->(Str->Option Value)->G->a7->Prop):Prop:=
 ∀(A:Around) (E:Value->Shared->Prop) (s:Shared) (R:a7) (K:α->Shared->Prop),dk n A->cB B L m g (ms++R) s.heap->
  (∀v b3 ao ms' aC t',Q v b3 ao ms'->cB B L b3 ao (ms'++R) aC->K v {s with heap:=aC,toks:=t'})->wpAny (model bD w) A t K E s
theorem da.C5{B:bC w}{n:Nat}{L:Addr}{α:Type}{t:Sem α}{m:Str->Option Value}{g:G}{ms:a7}{Q:α->(Str->Option Value)->G->a7->Prop}(h:eG B n t g ms fun v ao ms'=>Q v m ao ms'):da B n L t m g ms Q:=fun A E s R K aI F k=>by
 refine aW F.open fun o S c=>?_
 refine h A E s ((L,o)::R) K aI (S.perm ?_) fun v ao ms' aC t' q bZ=>?_
 ·exact List.perm_middle.symm
 ·have cC:=bZ.perm List.perm_middle
  exact k v m ao ms' aC t' q (cB.close cC (c _ (cC.own (L,o) (.head _))))
theorem da.pure{B:bC w}{n:Nat}{L:Addr}{α:Type}{v:α}{m:Str->Option Value}{g:G}{ms:a7}{Q:α->(Str->Option Value)->G->a7->Prop}(h:Q v m g ms):da B n L (Pure.pure v:Sem α) m g ms Q:=
 fun Z Z s Z Z Z S k=>wpAny_pure (k v m g ms s.heap s.toks h S)
theorem da.bind{B:bC w}{n:Nat}{L:Addr}{α β:Type}{t:Sem α}{f:α->Sem β}{m:Str->Option Value}{g:G}{ms:a7}{Q:β->(Str->Option Value)->G->a7->Prop}(h:da B n L t m g ms fun v b3 ao ms'=>da B n L (f v) b3 ao ms' Q):da B n L (t>>=f) m g ms Q:=
 fun A E s R K aI S k=>wpAny_bind (h A E s R _ aI S fun v b3 ao ms' aC t' q bZ=>q A E _ R K aI bZ fun FX m₂ cH cr cz dz ml cC=>k FX m₂ cH cr cz dz ml cC)
theorem da.mono{B:bC w}{n:Nat}{L:Addr}{α:Type}{t:Sem α}{m:Str->Option Value}{g:G}{ms:a7}{Q jV:α->(Str->Option Value)->G->a7->Prop}(h:da B n L t m g ms Q)(k:∀v b3 ao ms',Q v b3 ao ms'->jV v b3 ao ms'):da B n L t m g ms jV:=
 fun A E s R K aI S b0=>h A E s R K aI S fun v b3 ao ms' aC t' q bZ=>b0 v b3 ao ms' aC t' (k _ _ _ _ q) bZ
theorem da.freeze{B:bC w}{n:Nat}{L:Addr}{α:Type}{t:Sem α}{m:Str->Option Value}{g:G}{ms:a7}{a:Addr}{o:Obj}{P:hP}{Q:α->(Str->Option Value)->G->a7->Prop}(dj:P o)(h:∀ao,Ext g ao->ao a=some P->da B n L t m ao ms Q):da B n L t m g ((a,o)::ms) Q:=fun A E s R K aI F k=>by
 refine aW F.open fun cm S c=>?_
 refine bS ((S.perm (List.Perm.swap (a,o) (L,cm) (ms++R))).freeze dj) fun bZ e=>?_
 exact h _ e (iE ..) A E s R K aI (cB.close bZ (c _ (bZ.own (L,cm) (.head _)))) k
theorem da.perm{B:bC w}{n:Nat}{L:Addr}{α:Type}{t:Sem α}{m:Str->Option Value}{g:G}{ms ms':a7}{Q:α->(Str->Option Value)->G->a7->Prop}(p:ms.Perm ms')(h:da B n L t m g ms' Q):da B n L t m g ms Q:=
 fun A E s R K aI F k=>h A E s R K aI ⟨F.cb.perm (p.append_right R),F.ns,F.pG,fun q aL=>F.ot q ((p.append_right R).mem_iff.mpr aL)⟩ k
theorem da.wrap{B:bC w}{n:Nat}{L:Addr}{α:Type}{t t':Sem α}{m:Str->Option Value}{g:G}{ms:a7}{Q:α->(Str->Option Value)->G->a7->Prop}(e:∀A K E s,wpAny (model bD w) A t' K E s->wpAny (model bD w) A t K E s)(h:da B n L t' m g ms Q):da B n L t m g ms Q:=fun A E s R K aI S k=>e A K E s (h A E s R K aI S k)
theorem da.standAt{B:bC w}{n:Nat}{L:Addr}{α:Type}{p:Pos}{f:Unit->Sem α}{m:Str->Option Value}{g:G}{ms:a7}{Q:α->(Str->Option Value)->G->a7->Prop}(h:da B n L (f ()) m g ms Q):da B n L (standAt p>>=f) m g ms Q:=
 .wrap (fun Z Z Z Z h=>wpAny_bind (wpAny_standAt h)) h
theorem GK{A:Around}{ae:List Value}{t:Sem Value}{K:Value->Shared->Prop}{E:Value->Shared->Prop}{s:Shared}(h:wpAny (model bD w) A t K E s):wpAny (model bD w) A (operate ae t) K E s:=
 fun aiO p ahL=>by rw[Sem.wp_operate];exact h aiO p ahL
end
section
variable {w:World}
noncomputable abbrev lst(ae:List Value)(k:Nat:=0):Obj:={cls:=.type "list",data:=.seq ae.toArray k}
noncomputable abbrev tup(ae:List Value):Obj:={cls:=.type "tuple",data:=.seq ae.toArray}
noncomputable def gQ(ae:List Value):hP:=fun o=>∃k,o=lst ae k
noncomputable def t7(ae:List Value):hP:=fun o=>o=tup ae
noncomputable def jW(w:World)(m0:List (Str×Value)):hP:=fun o=>∃bw ep,o.ExactDict/\o.data=.dict bw ep/\KeysOf (strKind bD w) bw/\Pairs (strKind bD w) bw.toList m0/\(m0.map (·.1)).Nodup
noncomputable def sE(P:Params)(t:Nat->Nat)(dT en fk gg lv:Value):List DictEntry:=
 [⟨PyData.keyHash P "kind",.str "kind" (t 0),dT⟩,⟨PyData.keyHash P "items",.str "items" (t 1),en⟩,⟨PyData.keyHash P "attrs",.str "attrs" (t 2),fk⟩,⟨PyData.keyHash P "shared",.str "shared" (t 3),gg⟩,⟨PyData.keyHash P "loose",.str "loose" (t 4),lv⟩]
noncomputable def xD(P:Params)(dT en fk:Value):hP:=fun o=>∃t gg lv k,o=dictOf (sE P t dT en fk gg lv) k
noncomputable def FY(lo aN st:Int):hP:=fun o=>∃t u v,o={cls:=.type "range",dict:=none,data:=.fields #[.int lo t,.int aN u,.int st v],slots:=#[]}
noncomputable def iQ(v:Value):hP:=fun o=>o.data=.cell (some v)
noncomputable def C6:Nat->Expr->List (Arguments×Expr×Scope)
 | 0,Z=>[]
 | n+1,e=>ha e [] (la:=fun a b s=>[(a,b,s)]) (ca:=fun f as Z Z=>C6 n f++as.flatMap (C6 n))
noncomputable def C7:Nat->Stmt->List (Arguments×Expr×Scope)
 | 0,Z=>[]
 | n+1,s=>Af s [] (ii:=fun Z b o=>b.flatMap (C7 n)++o.flatMap (C7 n)) (as:=fun Z v=>C6 n v)
noncomputable def adw:List (Arguments×Expr×Scope):=(bd 125).body.flatMap (C7 6)
set_option genInjectivity true in
structure afN where
 params:Arguments
 body:Expr
 scope:Scope
 deriving Inhabited
noncomputable def cP(j:Nat):afN:=match adw[j]? with|some (a,b,s)=>⟨a,b,s⟩|none=>default
noncomputable def yr:Nat->List Str
 | 0=>[Str.ofString "factors",Str.ofString "levels",Str.ofString "wide"]
 | Z=>[]
noncomputable abbrev tB(j:Nat)(cl:List (Str×Addr))(cV:Addr)(q:Str)(pm fX:Value):Obj:=kla_obj "<lambda>" q (cP j).params (cP j).body (cP j).scope cl pm cV fX
noncomputable def y1(q:Str):hP:=fun o=>∃ae xE,o.data=.fields ae/\ae[1]?=some (.str q xE)
noncomputable def jt(g:G):List Str->List (Str×Addr)->List Value->Prop
 | [],Z,ae=>ae=[]
 | x::xs,cl,ae=>∃v r ca,ae=v::r/\cl.lookup x=some ca/\g ca=some (iQ v)/\jt g xs cl r
theorem jt.mono{g ao:G}(e:Ext g ao):∀{xs:List Str} {cl:List (Str×Addr)} {ae:List Value},jt g xs cl ae->jt ao xs cl ae:=by
 intro es
 induction es with
 | nil=>
  intro Z Z h
  exact h
 | cons Z bt eo=>
  intro Z Z iK
  refine fq iK fun v r ca aw ai a3 bn=>?_
  exact pj v r ca aw ai (e _ _ a3) (eo bn)
set_option genInjectivity true in
inductive D where
 | none|bool (b:Bool)|int (n:Int)|str (s:Str)
 | tup (l:List D)|list (l:List D)|dict (ks:List Str) (ae:List D)
 | vec (kind:Str) (items attrs:D)
 | hA (lo aN st:Int)
 | fn (j:Nat) (jA:List D)
 deriving Inhabited
mutual
noncomputable def Rep(w:World)(g:G):D->Value->Prop
 | .none,v=>v=.none
 | .bool b,v=>v=.bool b
 | .int n,v=>∃t,v=.int n t
 | .str s,v=>∃t,v=.str s t
 | .tup l,v=>∃a ae,v=.ref a/\g a=some (t7 ae)/\bE w g l ae
 | .list l,v=>∃a ae,v=.ref a/\g a=some (gQ ae)/\bE w g l ae
 | .dict ks l,v=>∃a ae o,v=.ref a/\g a=f7 o/\jW w (ks.zip ae) o/\ks.length=ae.length/\(a==sysModules)=false/\bE w g l ae
 | .vec k i t,v=>∃a bB dT en fk,v=.ref a/\g a=some (Eq (instObj 311 bB))/\g bB=some (xD w.params dT en fk)/\(∃u,dT=.str k u)/\Rep w g i en/\Rep w g t fk
 | .hA lo aN st,v=>∃a,v=.ref a/\g a=some (FY lo aN st)/\Builtin.Range.small lo aN st=true
 | .fn j jA,v=>∃a cl cV q pm fX ae,v=.ref a/\g a=f7 (tB j cl cV q pm fX)/\g cV=some (y1 q)/\jt g (yr j) cl ae/\bE w g jA ae/\(∀x ca,cl.lookup x=some ca->x∈yr j)/\(∀x y ca,cl.lookup x=some ca->cl.lookup y=some ca->x=y)
noncomputable def bE(w:World)(g:G):List D->List Value->Prop
 | [],ae=>ae=[]
 | d::l,ae=>∃v r,ae=v::r/\Rep w g d v/\bE w g l r
end
mutual
theorem Rep.mono{g ao:G}(e:Ext g ao):∀{d:D} {v:Value},Rep w g d v->Rep w ao d v
 | .none,Z,h=>by exact h
 | .bool Z,bt,h=>by exact h
 | .int Z,bt,h=>by exact h
 | .str Z,bt,h=>by exact h
 | .tup l,Z,h=>by refine c0 h fun a ae aw ai a3=>?_;exact dW a ae aw (e _ _ ai) (bE.mono e a3)
 | .list l,Z,h=>by refine c0 h fun a ae aw ai a3=>?_;exact dW a ae aw (e _ _ ai) (bE.mono e a3)
 | .dict Z l,bt,h=>by refine zI h fun a ae o aw ai cw a3 bn bN=>?_;exact wU a ae o aw (e _ _ ai) cw a3 bn (bE.mono e bN)
 | .vec Z bt cD,et,h=>by refine tp h fun a bB dT en fk aw ai a3 bn bN cw=>?_;exact ER a bB dT en fk aw (e _ _ ai) (e _ _ a3) bn (Rep.mono e bN) (Rep.mono e cw)
 | .hA Z bt cD,et,h=>by refine eT h fun a aw ai a3=>?_;exact gu a aw (e _ _ ai) a3
 | .fn Z l,bt,h=>by refine afg h fun a cl cV q pm fX ae aw ai a3 bn bN cw=>?_;exact afF a cl cV q pm fX ae aw (e _ _ ai) (e _ _ a3) (bn.mono e) (bE.mono e bN) cw
theorem bE.mono{g ao:G}(e:Ext g ao):∀{l:List D} {ae:List Value},bE w g l ae->bE w ao l ae
 | [],Z,h=>by exact h
 | d::l,Z,h=>by refine c0 h fun v r aw ai a3=>?_;exact dW v r aw (Rep.mono e ai) (bE.mono e a3)
end
@[elab_as_elim] theorem Rep.cs{g:G}{d:D}{v:Value}{P:Value->Prop}(h:Rep w g d v)(h0:d=.none->P .none)(aS:∀b,P (.bool b))(aN:∀i t,P (.int i t))(hs:∀s t,P (.str s t))(aA:∀a,P (.ref a)):P v:=by
 cases d with
 | none=>exact(show v=.none from h)▸h0 rfl
 | bool b=>exact(show v=.bool b from h)▸aS b
 | int i=>exact cQ h fun t y=>y▸aN i t
 | str s=>exact cQ h fun t y=>y▸hs s t
 | tup Z=>exact dc h fun a Z y Z=>y▸aA a
 | list Z=>exact dc h fun a Z y Z=>y▸aA a
 | dict Z bt=>exact iJ h fun a Z Z y Z=>y▸aA a
 | vec Z bt cD=>exact Ny h fun a Z Z Z Z y Z=>y▸aA a
 | hA Z bt cD=>exact aW h fun a y Z=>y▸aA a
 | fn Z bt=>exact NC h fun a Z Z Z Z Z Z y Z=>y▸aA a
section
variable {B:bC w} {g:G}
noncomputable abbrev dU{α β:Type}(_:α):Option β:=none
noncomputable abbrev iZ{α β Gq:Type}(_:α)(_:β):Option Gq:=none
noncomputable abbrev g5{α β Gq aiP:Type}(_:α)(_:β)(_:Gq):Option aiP:=none
noncomputable abbrev sel{α:Type}(f0:Option α)(rI:Int->Option α)(fs:Str->Option α)(a8 rJ:List D->Option α)(fd:List Str->List D->Option α)(fr:Int->Int->Int->Option α):D->Option α
 | .none=>f0|.int n=>rI n|.str s=>fs s|.list l=>a8 l|.tup l=>rJ l|.dict ks l=>fd ks l|.hA a b c=>fr a b c|_=>none
theorem sF{α:Type}{f0:Option α}{rI:Int->Option α}{fs:Str->Option α}{a8 rJ:List D->Option α}{fd:List Str->List D->Option α}{fr:Int->Int->Int->Option α}{d:D}{r:α}{P:D->Prop}(e:sel f0 rI fs a8 rJ fd fr d=some r)(ou:f0=some r->P .none)(FZ:∀i,rI i=some r->P (.int i))(ks:∀s,fs s=some r->P (.str s))(ov:∀l,a8 l=some r->P (.list l))(kt:∀l,rJ l=some r->P (.tup l))(kd:∀k l,fd k l=some r->P (.dict k l))(F0:∀a b c,fr a b c=some r->P (.hA a b c)):P d:=by
 cases d with
 | int i=>exact FZ i e
 | str s=>exact ks s e
 | list l=>exact ov l e
 | tup l=>exact kt l e
 | dict k l=>exact kd k l e
 | hA a b c=>exact F0 a b c e
 | none=>exact ou e
 | bool b=>exact ns e
 | vec Z bt cD=>exact ns e
 | fn Z bt=>exact ns e
@[elab_as_elim] theorem ih{α:Type}{f0:Option α}{rI:Int->Option α}{fs:Str->Option α}{a8 rJ:List D->Option α}{fd:List Str->List D->Option α}{fr:Int->Int->Int->Option α}{d:D}{v:Value}{r:α}{P:Value->Prop}(aA:Rep w g d v)(e:sel f0 rI fs a8 rJ fd fr d=some r)(ou:f0=some r->P .none)(FZ:∀i t,rI i=some r->P (.int i t))(ks:∀s t,fs s=some r->P (.str s t))(ov:∀l,Rep w g (.list l) v->a8 l=some r->P v)(kt:∀l,Rep w g (.tup l) v->rJ l=some r->P v)(kd:∀k l,Rep w g (.dict k l) v->fd k l=some r->P v)(F0:∀a b c,Rep w g (.hA a b c) v->fr a b c=some r->P v):P v:=
 sF (P:=fun d=>Rep w g d v->P v) e (fun e aA=>(show v=.none from aA)▸ou e) (fun i e aA=>cQ aA fun t y=>y▸FZ i t e) (fun s e aA=>cQ aA fun t y=>y▸ks s t e) (fun l e aA=>ov l aA e) (fun l e aA=>kt l aA e) (fun k l e aA=>kd k l aA e) (fun a b c e aA=>F0 a b c aA e) aA
noncomputable abbrev gY{α:Type}(f:Int->Option α):D->Option α:=sel none f dU dU dU iZ g5
noncomputable abbrev iG{α:Type}(f:Str->Option α):D->Option α:=sel none dU f dU dU iZ g5
noncomputable abbrev jB{α:Type}(f:List D->Option α):D->Option α:=sel none dU dU f dU iZ g5
noncomputable abbrev MH{α:Type}(f:List D->Option α):D->Option α:=sel none dU dU dU f iZ g5
noncomputable abbrev MI{α:Type}(f:List Str->List D->Option α):D->Option α:=sel none dU dU dU dU f g5
noncomputable abbrev y2{α:Type}(f:Int->Option α)(h:Str->Option α):D->Option α:=sel none f h dU dU iZ g5
section
variable {α:Type} {d:D} {v:Value} {r:α} {P:Value->Prop}
@[elab_as_elim] theorem gI{f:Int->Option α}(aA:Rep w g d v)(e:gY f d=some r)(k:∀i t,f i=some r->P (.int i t)):P v:=ih aA e (fun h=>ns h) k (fun Z Z h=>ns h) (fun Z Z h=>ns h) (fun Z Z h=>ns h) (fun Z Z Z h=>ns h) (fun Z Z Z Z h=>ns h)
@[elab_as_elim] theorem i8{f:Str->Option α}(aA:Rep w g d v)(e:iG f d=some r)(k:∀i t,f i=some r->P (.str i t)):P v:=ih aA e (fun h=>ns h) (fun Z Z h=>ns h) k (fun Z Z h=>ns h) (fun Z Z h=>ns h) (fun Z Z Z h=>ns h) (fun Z Z Z Z h=>ns h)
@[elab_as_elim] theorem mG{f:List D->Option α}(aA:Rep w g d v)(e:jB f d=some r)(k:∀l,Rep w g (.list l) v->f l=some r->P v):P v:=ih aA e (fun h=>ns h) (fun Z Z h=>ns h) (fun Z Z h=>ns h) k (fun Z Z h=>ns h) (fun Z Z Z h=>ns h) (fun Z Z Z Z h=>ns h)
@[elab_as_elim] theorem WQ{f:List Str->List D->Option α}(aA:Rep w g d v)(e:MI f d=some r)(k:∀ks l,Rep w g (.dict ks l) v->f ks l=some r->P v):P v:=ih aA e (fun h=>ns h) (fun Z Z h=>ns h) (fun Z Z h=>ns h) (fun Z Z h=>ns h) (fun Z Z h=>ns h) k (fun Z Z Z Z h=>ns h)
@[elab_as_elim] theorem DV{f:Int->Option α}{kA:Str->Option α}(aA:Rep w g d v)(e:y2 f kA d=some r)(k:∀i t,f i=some r->P (.int i t))(k':∀i t,kA i=some r->P (.str i t)):P v:=ih aA e (fun h=>ns h) k k' (fun Z Z h=>ns h) (fun Z Z h=>ns h) (fun Z Z Z h=>ns h) (fun Z Z Z Z h=>ns h)
end
noncomputable abbrev mI{α:Type}(f:Int->Int->Option α)(a b:D):Option α:=gY (fun x=>gY (f x) b) a
@[elab_as_elim] theorem mO{α:Type}{f:Int->Int->Option α}{a b:D}{u v:Value}{r:α}{P:Value->Value->Prop}(b8:Rep w g a u)(cc:Rep w g b v)(e:mI f a b=some r)(k:∀x t y t',f x y=some r->P (.int x t) (.int y t')):P u v:=
 gI (P:=fun u=>P u v) b8 e fun x t e=>gI cc e fun y t' e=>k x t y t' e
noncomputable abbrev y3{α:Type}(f:Int->Int->Option α)(h:Str->Str->Option α)(a b:D):Option α:=y2 (fun x=>gY (f x) b) (fun x=>iG (h x) b) a
@[elab_as_elim] theorem DW{α:Type}{f:Int->Int->Option α}{h:Str->Str->Option α}{a b:D}{u v:Value}{r:α}{P:Value->Value->Prop}(b8:Rep w g a u)(cc:Rep w g b v)(e:y3 f h a b=some r)(k:∀x t y t',f x y=some r->P (.int x t) (.int y t'))(k':∀x t y t',h x y=some r->P (.str x t) (.str y t')):P u v:=DV (P:=fun u=>P u v) b8 e (fun x t e=>gI cc e fun y t' e=>k x t y t' e) (fun x t e=>i8 cc e fun y t' e=>k' x t y t' e)
@[elab_as_elim] theorem hL{α:Type}{c:Prop}[Decidable c]{a b:α}{P:α->Prop}(h:(if c then some a else none)=some b)(k:c->P a):P b:=bS (ea h) fun q y=>y▸k q
@[elab_as_elim] theorem LW{α:Type}{c:Prop}[Decidable c]{a b:α}{P:α->Prop}(h:(if c then none else some a)=some b)(k:¬c->P a):P b:=by
 by_cases q:c
 ·rw[if_pos q] at h;exact ns h
 ·rw[if_neg q] at h;exact Option.some.inj h▸k q
@[elab_as_elim] theorem e0{α:Type}{a b:α}{P:α->Prop}(h:some a=some b)(k:P a):P b:=Option.some.inj h▸k
@[elab_as_elim] theorem oY{α β:Type}{f:α->β}{o:Option α}{b:β}{P:β->Prop}(h:o.map f=some b)(k:∀x,o=some x->P (f x)):P b:=by
 cases o with
 | none=>exact ns h
 | some x=>exact e0 h (k x rfl)
noncomputable abbrev wY{α:Type}(f:D->Option α)(kA:D->D->Option α)(zP:D->D->D->Option α):List D->Option α
 | [a]=>f a|[a,b]=>kA a b|[a,b,c]=>zP a b c|_=>none
@[elab_as_elim] theorem y4{α:Type}{f:D->Option α}{kA:D->D->Option α}{zP:D->D->D->Option α}{ds:List D}{ae:List Value}{r:α}{P:List Value->Prop}(aA:bE w g ds ae)(e:wY f kA zP ds=some r)(k:∀a u,Rep w g a u->f a=some r->P [u])(k':∀a b u v,Rep w g a u->Rep w g b v->kA a b=some r->P [u,v])(afO:∀a b c u v x,Rep w g a u->Rep w g b v->Rep w g c x->zP a b c=some r->P [u,v,x]):P ae:=by
 cases ds with
 | nil=>exact ns e
 | cons a ds=>
 refine c0 aA fun u us y bp aw=>?_
 clear aA
 subst y
 cases ds with
 | nil=>exact(show us=[] from aw).symm▸k a u bp e
 | cons b ds=>
 refine c0 aw fun v us y aS ai=>?_
 clear aw
 subst y
 cases ds with
 | nil=>exact(show us=[] from ai).symm▸k' a b u v bp aS e
 | cons c ds=>
 refine c0 ai fun x us y bb a3=>?_
 clear ai
 subst y
 cases ds with
 | nil=>exact(show us=[] from a3).symm▸afO a b c u v x bp aS bb e
 | cons Z bt=>exact ns e
noncomputable abbrev jC{α:Type}(f:D->Option α):List D->Option α:=wY f iZ g5
noncomputable abbrev zj{α:Type}(f:D->D->Option α):List D->Option α:=wY dU f g5
section
variable {α:Type} {ds:List D} {ae:List Value} {r:α} {P:List Value->Prop}
@[elab_as_elim] theorem ka{f:D->Option α}(aA:bE w g ds ae)(e:jC f ds=some r)(k:∀a u,Rep w g a u->f a=some r->P [u]):P ae:=y4 aA e k (fun Z Z Z Z Z Z h=>ns h) (fun Z Z Z Z Z Z Z Z Z h=>ns h)
@[elab_as_elim] theorem Cx{f:D->D->Option α}(aA:bE w g ds ae)(e:zj f ds=some r)(k:∀a b u v,Rep w g a u->Rep w g b v->f a b=some r->P [u,v]):P ae:=y4 aA e (fun Z Z Z h=>ns h) k (fun Z Z Z Z Z Z Z Z Z h=>ns h)
end
theorem bE.one{d:D}{ae:List Value}(h:bE w g [d] ae):∃v,ae=[v]/\Rep w g d v:=c0 h fun v r y aw ai=>⟨v,y.trans (congrArg _ (show r=[] from ai)),aw⟩
theorem Lb{α:Type}{f:Str->Option α}{d:D}{r:α}(e:iG f d=some r):∃s,d=.str s/\f s=some r:=
 sF (P:=fun d=>∃s,d=.str s/\f s=some r) e (fun h=>ns h) (fun Z h=>ns h) (fun s h=>⟨s,rfl,h⟩) (fun Z h=>ns h) (fun Z h=>ns h) (fun Z Z h=>ns h) (fun Z Z Z h=>ns h)
end
end
section
variable {w:World}
inductive O where
 | list (l:List D)|dict (ks:List Str) (ae:List D)|vec (kind:Str) (items attrs:D)
 | lists (l:List (List D))|hl (ks:List Str) (ae:List (List D))|part (l:List D)|tab|k2
inductive V where
 | aX (d:D)|cf (d:D)|mt (a:Addr) (o:O)
noncomputable abbrev aO:=List (Nat×V)
noncomputable def dO(b:Bool)(P:Prop):Prop:=Bool.rec False P b
noncomputable def jj(b:Bool)(P Q:Prop):Prop:=Bool.rec Q P b
theorem hq{α:Type}{o:Option α}{k:α->Prop}(h:Option.rec False k o):∃d,o=some d/\k d:=by
 cases o with
 | none=>exact h.elim
 | some d=>exact⟨d,rfl,h⟩
noncomputable def iL{α:Type}(o:Option α)(k:α->Prop):Prop:=Option.rec False k o
structure At(P:Prop):Prop where
 h:P
theorem eu{b:Bool}{P:Prop}(h:dO b P):b=true/\P:=by cases b;exact h.elim;exact⟨rfl,h⟩
noncomputable def V.eV:V->Bool|.cf _=>true|_=>false
noncomputable def ik(w:World)(g:G):List (List D)->List Value->a7->Prop
 | [],ae,ms=>ae=[]/\ms=[]
 | l::ls,ae,ms=>∃a ws k r ms',ae=.ref a::r/\ms=(a,lst ws k)::ms'/\bE w g l ws/\ik w g ls r ms'
noncomputable def pents(P:Params)(t:Nat->Nat):List DictEntry:=
 [⟨PyData.keyHash P "kind",.str "kind" (t 0),.none⟩,⟨PyData.keyHash P "items",.str "items" (t 1),.none⟩,⟨PyData.keyHash P "attrs",.str "attrs" (t 2),.none⟩,⟨PyData.keyHash P "shared",.str "shared" (t 3),.none⟩,⟨PyData.keyHash P "loose",.str "loose" (t 4),.none⟩]
noncomputable def fB(w:World)(g:G)(a:Addr):O->a7->Prop
 | .list l,ms=>∃ae k,ms=[(a,lst ae k)]/\bE w g l ae
 | .dict ks l,ms=>∃ae o,ms=[(a,o)]/\jW w (ks.zip ae) o/\ks.length=ae.length/\(a==sysModules)=false/\bE w g l ae
 | .vec kd i t,ms=>∃bB dT en fk dY,ms=[(a,instObj 311 bB),(bB,dY)]/\xD w.params dT en fk dY/\(∃u,dT=.str kd u)/\Rep w g i en/\Rep w g t fk
 | .lists ls,ms=>∃ae,g a=some (gQ ae)/\ik w g ls ae ms
 | .tab,ms=>a=796/\ms=[(796,tabObj #[])]
 | .k2,ms=>a=796/\∃ps,ms=[(796,tabObj ps)]
 | .part l,ms=>∃bB ae t k,ms=[(a,instObj 311 bB),(bB,PySem.W.dictOf ((pents w.params t).zipWith (fun e v=>{e with val:=v}) ae) k)]/\bE w g l ae
 | .hl ks ls,ms=>∃ae o ms',ms=(a,o)::ms'/\jW w (ks.zip ae) o/\ks.length=ae.length/\(a==sysModules)=false/\ik w g ls ae ms'
noncomputable def jD(w:World)(g:G):V->Value->a7->Prop
 | .aX d,v,ms=>ms=[]/\Rep w g d v
 | .cf d,v,ms=>ms=[]/\Rep w g d v
 | .mt a o,v,ms=>v=.ref a/\fB w g a o ms
theorem ik.mono{g ao:G}(e:Ext g ao):∀{ls:List (List D)} {ae:List Value} {ms:a7},ik w g ls ae ms->ik w ao ls ae ms
 | [],Z,bt,h=>h
 | Z::bt,cD,et,⟨a,ws,k,r,ms',aw,ai,a3,bn⟩=>wV a ws k r ms' aw ai (a3.mono e) (bn.mono e)
theorem fB.mono{g ao:G}(e:Ext g ao){a:Addr}{o:O}{ms:a7}(h:fB w g a o ms):fB w ao a o ms:=by
 cases o with
 | list l=>refine dc h fun ae k aw ai=>?_;exact hx ae k aw (ai.mono e)
 | dict ks l=>refine k5 h fun ae k aw ai a3 bn bN=>?_;exact tu ae k aw ai a3 bn (bN.mono e)
 | vec kd i t=>refine EE h fun bB dT en fk dY aw ai a3 bn bN=>?_;exact EQ bB dT en fk dY aw ai a3 (bn.mono e) (bN.mono e)
 | lists ls=>refine aW h fun ae aw ai=>?_;exact⟨ae,e _ _ aw,ai.mono e⟩
 | tab=>exact h
 | k2=>exact h
 | part l=>refine lZ h fun bB ae t k aw ai=>?_;exact zM bB ae t k aw (ai.mono e)
 | hl ks ls=>refine zH h fun ae o m aw ai a3 bn bN=>?_;exact zK ae o m aw ai a3 bn (bN.mono e)
theorem jD.mono{g ao:G}(e:Ext g ao){V:V}{v:Value}{ms:a7}(h:jD w g V v ms):jD w ao V v ms:=by
 cases V with
 | aX d=>exact⟨h.1,h.2.mono e⟩
 | cf d=>exact⟨h.1,h.2.mono e⟩
 | mt a o=>exact⟨h.1,h.2.mono e⟩
noncomputable def c6(w:World)(g:G):aO->List Value->a7->Prop
 | [],ae,ms=>ae=[]/\ms=[]
 | (x,V)::ρ,ae,ms=>∃v r m₁ m₂,ae=v::r/\ms=m₁++m₂/\jD w g V v m₁/\c6 w g ρ r m₂
theorem c6.mono{g ao:G}(e:Ext g ao):∀{ρ:aO} {ae:List Value} {ms:a7},c6 w g ρ ae ms->c6 w ao ρ ae ms
 | [],Z,bt,h=>h
 | Z::bt,cD,et,⟨v,r,m₁,m₂,aw,ai,a3,bn⟩=>hy v r m₁ m₂ aw ai (a3.mono e) (bn.mono e)
noncomputable def bT(ρ:aO)(x:Nat):Option V:=match ρ with
 | []=>none
 | (y,V)::r=>if x=y then some V else bT r x
noncomputable def st(ρ:aO)(x:Nat)(V:V):aO:=match ρ with
 | []=>[]
 | (y,U)::r=>if x=y then (y,V)::r else (y,U)::st r x V
noncomputable def hr(ρ:aO)(x:Nat)(V:V):aO:=match bT ρ x with
 | some Z=>st ρ x V
 | none=>(x,V)::ρ
noncomputable def putK(ρ:aO)(x:Nat)(V:V)(k:aO->Prop):Prop:=Option.rec (k ((x,V)::ρ)) (fun Z=>k (st ρ x V)) (bT ρ x)
theorem lM{ρ:aO}{x:Nat}{V:V}{k:aO->Prop}(h:putK ρ x V k):k (hr ρ x V):=by
 unfold putK at h
 unfold hr
 cases e:bT ρ x with
 | none=>rw[e] at h;exact h
 | some U=>rw[e] at h;exact h
noncomputable def dX(ρ:aO)(ae:List Value)(x:Nat):Option Value:=match ρ,ae with
 | (y,Z)::r,v::ae=>if x=y then some v else dX r ae x
 | Z,bt=>none
noncomputable def oa(ρ:aO)(ae:List Value)(x:Nat)(u:Value):List Value:=match ρ,ae with
 | (y,Z)::r,v::ae=>if x=y then u::ae else v::oa r ae x u
 | Z,bt=>ae
noncomputable def du(ρ:aO):List (Nat×Bool):=ρ.map fun p=>(p.1,p.2.eV)
theorem gV{g:G}:∀{ρ:aO} {ae:List Value} {ms:a7} {x:Nat} {V:V},c6 w g ρ ae ms->bT ρ x=some V->∃v m₁ m₂,dX ρ ae x=some v/\jD w g V v m₁/\ms.Perm (m₁++m₂)/\
   ∀ao U ll,Ext g ao->jD w ao U v ll->∃m₄,c6 w ao (st ρ x U) ae m₄/\m₄.Perm (ll++m₂):=by
 intro es
 induction es with
 | nil=>
  intro Z Z Z Z Z h
  exact ns h
 | cons l1 ρ eo=>
  obtain⟨y,U⟩:=l1
  intro Z Z x V l2 h
  refine h9 l2 fun v r m₁ m₂ aw ai a3 bn=>?_
  subst aw ai
  unfold bT at h
  by_cases q:x=y
  ·replace h:=(if_pos q)▸h;obtain rfl:=Option.some.inj h
   refine pj v m₁ m₂ (by unfold dX;rw[if_pos q]) a3 (.refl _) (fun ao U ll ex mm=>⟨ll++m₂,?_,.refl _⟩)
   unfold st;rw[if_pos q];exact hy v r ll m₂ rfl rfl mm (bn.mono ex)
  ·rw[if_neg q] at h
   refine fq (eo bn h) fun kB n₁ jX aD ak bz b5=>?_
   refine pj kB n₁ (m₁++jX) (by exact(if_neg q).trans aD) ak ?_ (fun ao xF ll ex mm=>?_)
   ·refine(bz.append_left m₁).trans ?_
    rw[<- List.append_assoc,<- List.append_assoc];exact List.perm_append_comm.append_right _
   ·refine aW (b5 ao xF ll ex mm) fun m₄ f1 f2=>?_
    refine⟨m₁++m₄,?_,?_⟩
    ·unfold st;rw[if_neg q];exact hy v r m₁ m₄ rfl rfl (a3.mono ex) f1
    ·refine(f2.append_left m₁).trans ?_
     rw[<- List.append_assoc,<- List.append_assoc];exact List.perm_append_comm.append_right _
theorem yj:∀{ρ:aO} {ae:List Value} {x:Nat},bT ρ x=none->dX ρ ae x=none
 | [],Z,bt,cD=>rfl
 | (y,U)::ρ,[],Z,bt=>rfl
 | (y,U)::ρ,v::ae,x,h=>by
  unfold bT at h
  by_cases q:x=y
  ·replace h:=(if_pos q)▸h;exact sn h
  ·rw[if_neg q] at h;exact(if_neg q).trans (yj h)
theorem su:∀{ρ:aO} {x:Nat} {U V:V},bT ρ x=some V->U.eV=V.eV->du (st ρ x U)=du ρ:=by
 intro es
 induction es with
 | nil=>
  intro Z Z Z h Z
  exact ns h
 | cons l1 ρ eo=>
  obtain⟨y,W⟩:=l1
  intro x U V h e
  unfold bT at h;dsimp only[st]
  by_cases q:x=y
  ·rw[if_pos q] at h ⊢;obtain rfl:=Option.some.inj h;simp[du,e]
  ·rw[if_neg q] at h ⊢
   have:=eo h e
   simp only[du,List.map_cons] at this ⊢
   rw[this]
theorem vA:∀{ρ ρ':aO} {ae:List Value} {x:Nat},du ρ'=du ρ->dX ρ' ae x=dX ρ ae x
 | [],[],Z,bt,cD=>rfl
 | [],Z::bt,cD,et,e=>by simp[du] at e
 | Z::bt,[],cD,et,e=>by simp[du] at e
 | (y,U)::ρ,(rK,xF)::ρ',[],x,e=>rfl
 | (y,U)::ρ,(rK,xF)::ρ',v::ae,x,e=>by
  simp only[du,List.map_cons,List.cons.injEq,Prod.mk.injEq] at e
  refine bS e fun Zb bz=>?_
  refine bS Zb fun aD ak=>?_
  unfold dX
  rw[aD,vA (ρ:=ρ) (ρ':=ρ') bz]
theorem yI:∀{ρ ρ':aO} {x:Nat},du ρ'=du ρ->((bT ρ' x).map (·.eV))=(bT ρ x).map (·.eV)
 | [],[],Z,bt=>rfl
 | [],Z::bt,cD,e=>by simp[du] at e
 | Z::bt,[],cD,e=>by simp[du] at e
 | (y,U)::ρ,(rK,xF)::ρ',x,e=>by
  simp only[du,List.map_cons,List.cons.injEq,Prod.mk.injEq] at e
  obtain⟨⟨aD,ak⟩,bz⟩:=e
  unfold bT
  rw[aD]
  by_cases q:x=y
  ·rw[if_pos q,if_pos q];simp[ak]
  ·rw[if_neg q,if_neg q];exact yI bz
noncomputable def d6:List Str:=(["_","a","all_x","all_y","at","attrs","b","by","by_columns","cells","code","codes","column","columns","count","d","decreasing","df","digit","digits","dims","e","end","error","factors","figure","first","fixed_width","flags","form","found","fractions","frames","hand","i","item","items","j","joined","keep","kept","key","keys","kind","kinds","known","left","left_lacking","levels","limit","longer","low","made","many","merged","message","minus","most","n","na_last","name","names","notes","number","numbers","one","order","ordered","other","others","pair","pairs","part","parts","picks","place","places","plain","rest","result","right","right_lacking","row","row_labels","rows","runs","same","scientific_width","script","second","self","shift","side","sides","spot","step","suffix","suffixes","table","tag","tall","text","texts","to","told","two","v","value","vs","wide","x","x_keys","x_names","x_places","xs","y","y_keys","y_names","y_places"]:List String).map Str.ofString
noncomputable def nm(i:Nat):Str:=d6.getD i "?"
noncomputable def fR(env:Env)(m:Str->Option Value)(cs:a7)(g:G)(x:Str)(v:Value):Prop:=match env.kindOf x with
 | some .local=>m x=some v
 | some .cell|some .free=>∃ca,env.cells.lookup x=some ca/\((∃o,(ca,o)∈cs/\o.data=.cell (some v))∨g ca=some (iQ v))
 | Z=>True
set_option genInjectivity true in
structure dP(env:Env)(m:Str->Option Value)(cs:a7)(g:G)(ρ:aO)(ae:List Value):Prop where
 var:∀x v,dX ρ ae x=some v->fR env m cs g (nm x) v
 own:∀x,env.kindOf (nm x)=some .cell->((bT ρ x).map (·.eV))≠some true->∃ca o c,env.cells.lookup (nm x)=some ca/\(ca,o)∈cs/\o.data=.cell c
 inj:∀x y ca,env.cells.lookup x=some ca->env.cells.lookup y=some ca->x=y
 g6:∀x v,dX ρ ae x=some v->x<d6.length
 jH:∀x ca,env.cells.lookup x=some ca->(∃o c,(ca,o)∈cs/\o.data=.cell c)∨∃P,g ca=some P
theorem fR.loc{env:Env}{m:Str->Option Value}{cs:a7}{g:G}{x:Str}{v:Value}(h:fR env m cs g x v)(av:env.kindOf x=some .local):m x=some v:=by unfold fR at h;rw[av] at h;exact h
theorem fR.jI{env:Env}{m:Str->Option Value}{cs:a7}{g:G}{x:Str}{v:Value}(h:fR env m cs g x v)(av:env.kindOf x=some .cell∨env.kindOf x=some .free):∃ca,env.cells.lookup x=some ca/\((∃o,(ca,o)∈cs/\o.data=.cell (some v))∨g ca=some (iQ v)):=by
 unfold fR at h;rcases av with av|av <;> (rw[av] at h;exact h)
theorem fR.mono{env:Env}{m:Str->Option Value}{cs:a7}{g ao:G}{x:Str}{v:Value}(e:Ext g ao)(h:fR env m cs g x v):fR env m cs ao x v:=by
 unfold fR at h ⊢
 split at h <;> first|exact h|(refine aW h fun ca aw ai=>?_;exact⟨ca,aw,ai.imp id (e _ _)⟩)
theorem dP.mono{env:Env}{m:Str->Option Value}{cs:a7}{g ao:G}{ρ ρ':aO}{ae:List Value}(T:dP env m cs g ρ ae)(e:Ext g ao)(h:du ρ'=du ρ):dP env m cs ao ρ' ae:=
 ⟨fun x v aP=>(T.var x v (vA h▸aP)).mono e,fun x aE bb=>T.own x aE (yI h▸bb),T.inj,fun x v aP=>T.g6 x v (vA h▸aP),fun x ca bb=>(T.jH x ca bb).imp id fun Zc=>by refine cQ Zc fun P dj=>?_;exact⟨P,e _ _ dj⟩⟩
inductive zQ(w:World)(cs:a7)(ae:List Value)(m:Str->Option Value)(g:G)(ρ:aO){α:Type}(Q:α->aO->G->Prop)(v:α)(b3:Str->Option Value)(ao:G)(ms':a7):Prop where
 | mk (aD:m=b3) (ex:Ext g ao) (ρ':aO) (cr:a7) (cb:du ρ'=du ρ) (e:ms'=cs++cr) (xG:c6 w ao ρ' ae cr) (q:Q v ρ' ao)
inductive rr(w:World)(env:Env)(g:G){α:Type}(Q:α->aO->G->Prop)(v:α)(b3:Str->Option Value)(ao:G)(ms':a7):Prop where
 | mk (ex:Ext g ao) (ρ':aO) (d5:a7) (vs':List Value) (cr:a7) (xH:dP env b3 d5 ao ρ' vs') (e:ms'=d5++cr) (xG:c6 w ao ρ' vs' cr) (q:Q v ρ' ao)
theorem zQ.e{w:World}{cs:a7}{ae:List Value}{m:Str->Option Value}{g:G}{ρ:aO}{α:Type}{Q:α->aO->G->Prop}{v:α}{b3:Str->Option Value}{ao:G}{ms':a7}{P:Prop}(z:zQ w cs ae m g ρ Q v b3 ao ms')(k:m=b3->Ext g ao->∀(ρ':aO) (cr:a7),du ρ'=du ρ->ms'=cs++cr->c6 w ao ρ' ae cr->Q v ρ' ao->P):P:=by cases z with|mk a b c d e f i j=>exact k a b c d e f i j
theorem rr.e{w:World}{env:Env}{g:G}{α:Type}{Q:α->aO->G->Prop}{v:α}{b3:Str->Option Value}{ao:G}{ms':a7}{P:Prop}(z:rr w env g Q v b3 ao ms')(k:Ext g ao->∀(ρ':aO) (d5:a7) (vs':List Value) (cr:a7),dP env b3 d5 ao ρ' vs'->ms'=d5++cr->c6 w ao ρ' vs' cr->Q v ρ' ao->P):P:=by cases z with|mk a b c d e f i j l=>exact k a b c d e f i j l
theorem rr.up{w:World}{env:Env}{g bQ:G}{α:Type}{Q:α->aO->G->Prop}{v:α}{b3:Str->Option Value}{ao:G}{ms':a7}(e:Ext g bQ)(h:rr w env bQ Q v b3 ao ms'):rr w env g Q v b3 ao ms':=by
 cases h with|mk ex ρ' d5 vs' cr xH ak xG q=>exact⟨e.trans ex,ρ',d5,vs',cr,xH,ak,xG,q⟩
noncomputable def b1(B:bC w)(n:Nat)(env:Env){α:Type}(t:Sem α)(ρ:aO)(g:G)(Q:α->aO->G->Prop):Prop:=
 ∀m cs ae ms,dP env m cs g ρ ae->c6 w g ρ ae ms->da B n env.locals t m g (cs++ms) (zQ w cs ae m g ρ Q)
noncomputable def b9(B:bC w)(n:Nat)(env:Env){α:Type}(t:Sem α)(ρ:aO)(g:G)(Q:α->aO->G->Prop):Prop:=
 ∀m cs ae ms,dP env m cs g ρ ae->c6 w g ρ ae ms->da B n env.locals t m g (cs++ms) (rr w env g Q)
section
variable {B:bC w} {n:Nat} {env:Env} {α β:Type} {t:Sem α} {ρ:aO} {g:G} {Q:α->aO->G->Prop}
theorem b1.pure{v:α}(h:Q v ρ g):b1 B n env (Pure.pure v:Sem α) ρ g Q:=fun m cs ae ms T bu=>.pure ⟨rfl,.refl g,ρ,ms,rfl,rfl,bu,h⟩
theorem b1.bind{f:α->Sem β}{Q:β->aO->G->Prop}(h:b1 B n env t ρ g fun v ρ' ao=>b1 B n env (f v) ρ' ao Q):b1 B n env (t>>=f) ρ g Q:=fun m cs ae ms T bu=>
 .bind ((h m cs ae ms T bu).mono fun v b3 ao ms' cv=>by
  obtain⟨aD,ak,ρ',cr,bz,b5,dQ,gh⟩:=cv
  subst aD b5
  exact(gh m cs ae cr (T.mono ak bz) dQ).mono fun FX m₂ cH fh Zd=>by refine Zd.e fun f1 f2 bW g7 dL f4 fl jn=>?_;exact⟨f1,ak.trans f2,bW,g7,dL.trans bz,f4,fl,jn⟩)
theorem b1.mono{jV:α->aO->G->Prop}(h:b1 B n env t ρ g Q)(k:∀v ρ' ao,Ext g ao->Q v ρ' ao->jV v ρ' ao):b1 B n env t ρ g jV:=fun m cs ae ms T bu=>
 (h m cs ae ms T bu).mono fun v b3 ao ms' Ze=>by refine Ze.e fun aD ak ρ' cr bz b5 dQ gh=>?_;exact⟨aD,ak,ρ',cr,bz,b5,dQ,k _ _ _ ak gh⟩
theorem b1.wrap{t':Sem α}(e:∀A K E s,wpAny (model bD w) A t' K E s->wpAny (model bD w) A t K E s)(h:b1 B n env t' ρ g Q):b1 B n env t ρ g Q:=fun m cs ae ms T bu=>.wrap e (h m cs ae ms T bu)
theorem b1.of_eq{t':Sem α}(e:t=t')(h:b1 B n env t' ρ g Q):b1 B n env t ρ g Q:=e▸h
theorem b1.standAt{p:Pos}{f:Unit->Sem α}(h:b1 B n env (f ()) ρ g Q):b1 B n env (standAt p>>=f) ρ g Q:=.wrap (fun Z Z Z Z h=>wpAny_bind (wpAny_standAt h)) h
theorem b1.holding{ae:List Value}(h:b1 B n env t ρ g Q):b1 B n env (PySem.holding ae t) ρ g Q:=.wrap (fun Z Z Z Z h=>wpAny_holding h) h
theorem b1.operate{ae:List Value}{t:Sem Value}{Q:Value->aO->G->Prop}(h:b1 B n env t ρ g Q):b1 B n env (PySem.operate ae t) ρ g Q:=.wrap (fun Z Z Z Z h=>GK h) h
theorem b9.eD(h:b1 B n env t ρ g Q):b9 B n env t ρ g Q:=fun m cs ae ms T bu=>(h m cs ae ms T bu).mono fun v b3 ao ms' cv=>by
 obtain⟨aD,ak,ρ',cr,bz,b5,dQ,gh⟩:=cv
 subst aD;exact⟨ak,ρ',cs,ae,cr,T.mono ak bz,b5,dQ,gh⟩
theorem b9.bind{f:α->Sem β}{Q:β->aO->G->Prop}(h:b9 B n env t ρ g fun v ρ' ao=>b9 B n env (f v) ρ' ao Q):b9 B n env (t>>=f) ρ g Q:=fun m cs ae ms T bu=>
 .bind ((h m cs ae ms T bu).mono fun v b3 ao ms' cv=>by
  obtain⟨ak,ρ',d5,vs',cr,bz,b5,dQ,gh⟩:=cv
  subst b5
  exact(gh b3 d5 vs' cr bz dQ).mono fun Z Z Z Z z=>z.up ak)
theorem b9.pure{v:α}(h:Q v ρ g):b9 B n env (Pure.pure v:Sem α) ρ g Q:=.eD (.pure h)
theorem b9.mono{jV:α->aO->G->Prop}(h:b9 B n env t ρ g Q)(k:∀v ρ' ao,Ext g ao->Q v ρ' ao->jV v ρ' ao):b9 B n env t ρ g jV:=fun m cs ae ms T bu=>
 (h m cs ae ms T bu).mono fun v b3 ao ms' Zf=>by refine Zf.e fun ak ρ' d5 vs' cr bz b5 dQ gh=>?_;exact⟨ak,ρ',d5,vs',cr,bz,b5,dQ,k _ _ _ ak gh⟩
theorem b9.wrap{t':Sem α}(e:∀A K E s,wpAny (model bD w) A t' K E s->wpAny (model bD w) A t K E s)(h:b9 B n env t' ρ g Q):b9 B n env t ρ g Q:=fun m cs ae ms T bu=>.wrap e (h m cs ae ms T bu)
theorem b9.of_eq{t':Sem α}(e:t=t')(h:b9 B n env t' ρ g Q):b9 B n env t ρ g Q:=e▸h
theorem b9.standAt{p:Pos}{f:Unit->Sem α}(h:b9 B n env (f ()) ρ g Q):b9 B n env (standAt p>>=f) ρ g Q:=.wrap (fun Z Z Z Z h=>wpAny_bind (wpAny_standAt h)) h
theorem b9.holding{ae:List Value}(h:b9 B n env t ρ g Q):b9 B n env (PySem.holding ae t) ρ g Q:=.wrap (fun Z Z Z Z h=>wpAny_holding h) h
theorem b9.operate{ae:List Value}{t:Sem Value}{Q:Value->aO->G->Prop}(h:b9 B n env t ρ g Q):b9 B n env (PySem.operate ae t) ρ g Q:=.wrap (fun Z Z Z Z h=>GK h) h
theorem b1.go{m:Str->Option Value}{cs ms R:a7}{ae:List Value}{A:Around}{E:Value->Shared->Prop}{s:Shared}{K:α->Shared->Prop}(h:b1 B n env t ρ g Q)(T:dP env m cs g ρ ae)(bu:c6 w g ρ ae ms)(aI:dk n A)(F:cB B env.locals m g ((cs++ms)++R) s.heap)(k:∀v ao ρ' ms' aC t',Ext g ao->du ρ'=du ρ->dP env m cs ao ρ' ae->c6 w ao ρ' ae ms'->Q v ρ' ao->cB B env.locals m ao ((cs++ms')++R) aC->K v {s with heap:=aC,toks:=t'}):wpAny (model bD w) A t K E s:=
 h m cs ae ms T bu A E s R K aI F fun v b3 ao ms' aC t' z cI=>z.e fun aD ex ρ' cr cb ak xG q=>by subst aD ak;exact k v ao ρ' cr aC t' ex cb (T.mono ex cb) xG q cI
end
noncomputable abbrev kk(v:Option V)(f:Addr->O->Prop):Prop:=match v with|some (.mt a o)=>f a o|_=>False
noncomputable abbrev tC(v:Option V)(f:Addr->List D->Prop):Prop:=kk v fun a o=>match o with|.list l=>f a l|_=>False
theorem kZ{v:Option V}{f:Addr->O->Prop}{P:Prop}(h:kk v f)(k:∀a o,v=some (.mt a o)->f a o->P):P:=by
 cases v with
 | none=>exact h.elim
 | some u=>cases u with
  | mt a o=>exact k a o rfl h
  | _=>exact h.elim
theorem v2{v:Option V}{f:Addr->List D->Prop}{P:Prop}(h:tC v f)(k:∀a l,v=some (.mt a (.list l))->f a l->P):P:=kZ h fun a o e h=>by
 cases o with
 | list l=>exact k a l e h
 | _=>exact h.elim
noncomputable abbrev zk(v:Option V)(f:Addr->List (List D)->Prop):Prop:=kk v fun a o=>match o with|.lists l=>f a l|_=>False
noncomputable abbrev DX(v:Option V)(f:Addr->List Str->List (List D)->Prop):Prop:=kk v fun a o=>match o with|.hl ks ls=>f a ks ls|_=>False
noncomputable abbrev EW(v:Option V)(f:D->Prop):Prop:=match v with|some (.aX d)=>f d|_=>False
theorem Cy{v:Option V}{f:Addr->List (List D)->Prop}{P:Prop}(h:zk v f)(k:∀a l,v=some (.mt a (.lists l))->f a l->P):P:=kZ h fun a o e h=>by
 cases o with
 | lists l=>exact k a l e h
 | _=>exact h.elim
theorem Lc{v:Option V}{f:Addr->List Str->List (List D)->Prop}{P:Prop}(h:DX v f)(k:∀a ks ls,v=some (.mt a (.hl ks ls))->f a ks ls->P):P:=kZ h fun a o e h=>by
 cases o with
 | hl ks ls=>exact k a ks ls e h
 | _=>exact h.elim
theorem LX{v:Option V}{f:D->Prop}{P:Prop}(h:EW v f)(k:∀d,v=some (.aX d)->f d->P):P:=by
 cases v with
 | none=>exact h.elim
 | some u=>cases u with
  | aX d=>exact k d rfl h
  | _=>exact h.elim
theorem sU{y:Nat}{V:V}{ρ:aO}{x:Nat}:bT ((y,V)::ρ) x=if x=y then some V else bT ρ x:=rfl
theorem MJ{y:Nat}{U V:Nz.Internal.V}{ρ:aO}{x:Nat}:st ((y,U)::ρ) x V=if x=y then (y,V)::ρ else (y,U)::st ρ x V:=rfl
end
section
variable {w:World} {B:bC w} {n:Nat} {env:Env} {ρ:aO} {g:G}
theorem Uy:d6.Nodup:=by decide +kernel
theorem sv{i j:Nat}(aN:i<d6.length)(bL:j<d6.length)(h:nm i=nm j):i=j:=by
 unfold nm at h
 rw[List.getD_eq_getElem?_getD,List.getD_eq_getElem?_getD,List.getElem?_eq_getElem aN,List.getElem?_eq_getElem bL,Option.getD_some,Option.getD_some] at h
 exact(List.getElem_inj Uy).mp h
theorem bx.stays{l:a7}{h:Heap}(S:bx B g l h):∀b o,B.fc.get? b=some o->h.get? b=some o:=fun b o e=>let ⟨_,y,z⟩:=S.dJ b _ (S.base b o e);by subst z;exact y
theorem cB.rq{L:Addr}{m:Str->Option Value}{l:a7}{h:Heap}(F:cB B L m g l h):h.Ns mainGlobals B.mg:=B.rq.keeps F.cb.stays
theorem cB.zO{L:Addr}{m:Str->Option Value}{l:a7}{h:Heap}(F:cB B L m g l h):h.Ns builtinsNs B.nc:=B.zO.keeps F.cb.stays
noncomputable def dB(B:bC w)(n:Nat){α:Type}(t:Sem α)(g:G)(Pre:Heap->Prop)(Q:α->G->Prop):Prop:=
 ∀(A:Around) (E:Value->Shared->Prop) (s:Shared) (R:a7) (K:α->Shared->Prop),dk n A->bx B g R s.heap->Pre s.heap->
  (∀v ao aC t',Ext g ao->Q v ao->bx B ao R aC->K v {s with heap:=aC,toks:=t'})->wpAny (model bD w) A t K E s
theorem dB.of{α:Type}{t:Sem α}{Pre:Heap->Prop}{Q:α->G->Prop}(h:∀(A:Around) (E:Value->Shared->Prop) (s:Shared) (R:a7) (K:α->Shared->Prop),dk n A->bx B g R s.heap->Pre s.heap->
  (∀v t',Q v g->K v {s with toks:=t'})->wpAny (model bD w) A t K E s):dB B n t g Pre Q:=fun A E s R K aI S bc k=>h A E s R K aI S bc fun v t' q=>k v g s.heap t' (.refl g) q S
theorem dB.mono{α:Type}{t:Sem α}{Pre MK:Heap->Prop}{Q jV:α->G->Prop}(h:dB B n t g Pre Q)(bc:∀h,MK h->Pre h)(k:∀v ao,Ext g ao->Q v ao->jV v ao):dB B n t g MK jV:=
 fun A E s R K aI S p b0=>h A E s R K aI S (bc _ p) fun v ao aC t' e q bZ=>b0 v ao aC t' e (k _ _ e q) bZ
theorem dB.alloc{α:Type}{t:Sem α}{o:Obj}{P:hP}{v:Addr->α}{Pre:Heap->Prop}{Q:α->G->Prop}(ht:∀(A:Around) (E:Value->Shared->Prop) (s:Shared) (K:α->Shared->Prop) (l:a7),dk n A->bx B g l s.heap->Pre s.heap->(∀aC t',aC=s.heap.push o->K (v s.heap.objs.size) {s with heap:=aC,toks:=t'})->wpAny (model bD w) A t K E s)(h:∀a ao,Ext g ao->ao a=some P->Q (v a) ao)(dj:P o)(hf:o.isFreed=false:=by rfl):dB B n t g Pre Q:=fun A E s R K aI S bc k=>by
 refine bS ((S.push o hf).freeze dj) fun bZ e=>?_
 exact ht A E s K R aI S bc fun aC t' eA=>k _ _ aC t' e (h _ _ e (iE ..)) (eA▸bZ)
theorem da.y5{L:Addr}{α:Type}{t:Sem α}{m:Str->Option Value}{ms:a7}{Q:α->(Str->Option Value)->G->a7->Prop}(h:da B n L t m g ms fun v b3 ao ms'=>∃m₂ l,ms'.Perm (m₂++l)/\Q v b3 ao m₂):da B n L t m g ms Q:=
 fun A E s R K aI F k=>h A E s R K aI F fun v b3 ao ms' aC t' iK cI=>dc iK fun m₂ l p q=>k v b3 ao m₂ aC t' q
  ⟨(cI.cb.perm (p.append_right R)).sub ((List.sublist_append_left m₂ l).append_right R),cI.ns,cI.pG,fun q aL=>cI.ot q ((p.append_right R).mem_iff.mpr (((List.sublist_append_left m₂ l).append_right R).subset aL))⟩
theorem b1.sG{α:Type}{t:Sem α}{Pre:Heap->Prop}{Q:α->aO->G->Prop}(bc:∀ae ms h (l:a7),c6 w g ρ ae ms->(∀q∈ms,h.get? q.1=some q.2)->bx B g l h->Pre h)(h:dB B n t g Pre fun v ao=>Q v ρ ao):b1 B n env t ρ g Q:=
 fun m cs ae ms T bu=>by
  intro A E s R K aI F k
  refine aW F.open fun cm S c=>?_
  refine h A E s _ K aI S (bc ae ms s.heap _ bu (fun q aL=>S.own q (by simp[aL])) S) fun v ao aC t' e q bZ=>?_
  exact k v m ao (cs++ms) aC t' ⟨rfl,e,ρ,ms,rfl,rfl,bu.mono e,q⟩ (cB.close bZ (c _ (bZ.own (env.locals,cm) (.head _))))
theorem b1.op{α:Type}{t:Sem α}{Q:α->aO->G->Prop}(h:dB B n t g (fun Z=>True) fun v ao=>Q v ρ ao):b1 B n env t ρ g Q:=.sG (fun Z Z Z Z Z Z Z=>trivial) h
theorem b1.NR{α:Type}{t:Sem α}{Q:α->aO->G->Prop}{x:Nat}{a:Addr}{o:O}{Pre:Heap->Prop}(aF:bT ρ x=some (.mt a o))(aS:∀b h,fB w g a o b->(∀q∈b,h.get? q.1=some q.2)->Pre h)(h:dB B n t g Pre fun v ao=>Q v ρ ao):b1 B n env t ρ g Q:=.sG (fun ae ms h l bu hm S=>by
 refine fq (gV bu aF) fun v m₁ m₂ Z ak bz Z=>?_
 exact aS m₁ h ak.2 fun q aL=>hm q (bz.mem_iff.mpr (List.mem_append_left _ aL))) h
theorem b1.turn{α:Type}{t:Sem α}{Q:α->aO->G->Prop}{x:Nat}{a:Addr}{o:O}(aF:bT ρ x=some (.mt a o))(h:∀b,fB w g a o b->eG B n t g b fun v ao b'=>Ext g ao/\∃bK,fB w ao a bK b'/\Q v (st ρ x (.mt a bK)) ao):b1 B n env t ρ g Q:=fun m cs ae ms T bu=>by
 refine fq (gV bu aF) fun v m₁ m₂ aD ak bz b5=>?_
 refine da.perm (ms':=m₁++(m₂++cs)) ?_ ?_
 ·exact(bz.append_left cs).trans (List.perm_append_comm.trans (by rw[List.append_assoc]))
 refine .y5 (da.C5 ((eG.frame (fr:=m₂++cs) (h m₁ ak.2)).mono fun u ao ms' cv=>?_))
 refine cps fun ed bR=>?_
 refine eT cv fun b' e dQ adx=>?_
 refine aW adx fun bK gh q=>?_
 refine aW (b5 ao (.mt a bK) b' dQ ⟨ak.1,gh⟩) fun m₄ dH bt=>?_
 refine bR ?_
 clear bR
 refine hx (cs++m₄) [] ?_ ⟨rfl,dQ,st ρ x (.mt a bK),m₄,su aF rfl,rfl,dH,q⟩
 subst e
 rw[List.append_nil]
 exact((List.append_assoc b' m₂ cs).symm▸List.perm_append_comm (l₁:=b'++m₂)).trans ((bt.symm).append_left cs)
end
section
variable {w:World} {B:bC w} {n:Nat} {env:Env} {ρ:aO} {g:G}
noncomputable def O.toD:O->Option D
 | .list l=>some (.list l)|.dict ks l=>some (.dict ks l)|.vec k i t=>some (.vec k i t)|.lists ls=>some (.list (ls.map .list))|.hl ks ls=>some (.dict ks (ls.map .list))|_=>none
theorem bx.Jz:∀{ls:List (List D)} {ae:List Value} {b l:a7} {h:Heap} {g:G},bx B g (b++l) h->ik w g ls ae b->∃ao,Ext g ao/\bE w ao (ls.map .list) ae/\bx B ao l h:=by
 intro es
 induction es with
 | nil=>
  intro ae b l h g S cW
  obtain⟨rfl,rfl⟩:=cW;exact gu g (.refl g) (by rfl) S
 | cons ds ls eo=>
  intro ae b l h g S cW
  refine cps fun ed bR=>?_
  refine ED cW fun a ws k r ms' wh wi aw ai=>?_
  subst wh
  subst wi
  refine bS (bx.freeze (P:=gQ ws) S ⟨k,rfl⟩) fun bZ e=>?_
  refine eT (eo bZ (ai.mono e)) fun k6 eA aA hQ=>?_
  refine bR ?_
  clear bR
  exact gu k6 (e.trans eA) (by exact dW _ r rfl (by exact dW a ws rfl (eA _ _ (iE ..)) ((aw.mono e).mono eA)) aA) hQ
theorem bx.sh{a:Addr}{o:O}{d:D}{b l:a7}{h:Heap}(S:bx B g (b++l) h)(cW:fB w g a o b)(hd:o.toD=some d):∃ao,Ext g ao/\Rep w ao d (.ref a)/\bx B ao l h:=by
 cases o with
 | list ds=>
  injection hd with hd;subst hd
  refine cps fun ed bR=>?_
  refine dc cW fun ae k Zg ai=>?_
  subst Zg
  refine bS (bx.freeze (P:=gQ ae) S ⟨k,rfl⟩) fun bZ e=>?_
  refine bR ?_
  clear bR
  exact gu _ e (by exact dW a ae rfl (iE ..) (ai.mono e)) bZ
 | dict ks ds=>
  injection hd with hd;subst hd
  refine cps fun ed bR=>?_
  refine k5 cW fun ae o Zh ai a3 bn bN=>?_
  subst Zh
  refine bS (bx.freeze (P:=Eq o) S rfl) fun bZ e=>?_
  refine bR ?_
  clear bR
  exact gu _ e (by exact wU a ae o rfl (iE ..) ai a3 bn (bN.mono e)) bZ
 | vec kd i t'=>
  injection hd with hd;subst hd
  refine cps fun ed bR=>?_
  refine EE cW fun bB dT en fk dY Zi ai a3 bn bN=>?_
  subst Zi
  refine bS (bx.freeze (P:=Eq (instObj 311 bB)) S rfl) fun bZ e=>?_
  refine bS (bx.freeze (P:=xD w.params dT en fk) bZ ai) fun hQ eA=>?_
  refine bR ?_
  clear bR
  exact gu _ (e.trans eA) (by exact ER a bB dT en fk rfl (eA _ _ (iE ..)) (iE ..) a3 ((bn.mono e).mono eA) ((bN.mono e).mono eA)) hQ
 | lists ls=>
  injection hd with hd;subst hd
  refine aW cW fun ae aw ai=>?_
  refine eT (bx.Jz S ai) fun ao e aA bZ=>?_
  exact gu ao e (by exact dW a ae rfl (e _ _ aw) aA) bZ
 | hl ks ls=>
  injection hd with hd;subst hd
  refine cps fun ed bR=>?_
  refine zH cW fun ae o ms' Zj ai a3 bn bN=>?_
  subst Zj
  refine bS (bx.freeze (P:=Eq o) S rfl) fun bZ e=>?_
  refine eT (bx.Jz bZ (bN.mono e)) fun ao eA aA hQ=>?_
  refine bR ?_
  clear bR
  exact gu ao (e.trans eA) (by exact wU a ae o rfl (eA _ _ (iE ..)) ai a3 bn aA) hQ
 | part Z=>exact ns hd
 | tab=>exact ns hd
 | k2=>exact ns hd
theorem da.sh{L:Addr}{α:Type}{t:Sem α}{m:Str->Option Value}{a:Addr}{o:O}{d:D}{b fr:a7}{Q:α->(Str->Option Value)->G->a7->Prop}(cW:fB w g a o b)(hd:o.toD=some d)(h:∀ao,Ext g ao->Rep w ao d (.ref a)->da B n L t m ao fr Q):da B n L t m g (b++fr) Q:=fun A E s R K aI F k=>by
 refine aW F.open fun cm S c=>?_
 have cM:bx B g (b++((L,cm)::(fr++R))) s.heap:=S.perm (by
  rw[List.append_assoc]
  exact List.perm_middle.symm)
 refine eT (cM.sh cW hd) fun ao e aA cC=>?_
 exact h ao e aA A E s R K aI (cB.close cC (c _ (cC.own (L,cm) (.head _)))) k
theorem b1.Bw{α:Type}{t:Sem α}{Q:α->aO->G->Prop}{x:Nat}{a:Addr}{o:O}{d:D}(aF:bT ρ x=some (.mt a o))(hd:o.toD=some d)(h:∀ao,Ext g ao->Rep w ao d (.ref a)->b1 B n env t (st ρ x (.aX d)) ao Q):b1 B n env t ρ g Q:=fun m cs ae ms T bu=>by
 refine fq (gV bu aF) fun v m₁ m₂ aD ak bz b5=>?_
 refine da.perm (ms':=m₁++(m₂++cs)) ?_ ?_
 ·exact(bz.append_left cs).trans (List.perm_append_comm.trans (by rw[List.append_assoc]))
 refine da.sh ak.2 hd fun ao e r=>?_
 refine aW (b5 ao (.aX d) [] e ⟨rfl,ak.1▸r⟩) fun m₄ dH bt=>?_
 refine da.perm (ms':=cs++m₄) (List.perm_append_comm.trans (bt.symm.append_left cs)) ?_
 exact(h ao e r m cs ae m₄ (T.mono e (su aF rfl)) dH).mono fun kB b3 k6 ms' Zk=>by refine Zk.e fun f1 f2 ρ' cr dL f4 fl jn=>?_;exact⟨f1,e.trans f2,ρ',cr,dL.trans (su aF rfl),f4,fl,jn⟩
noncomputable def wj(w:World)(g:G):V->Value->Prop
 | .aX d,v=>Rep w g d v
 | .cf d,v=>Rep w g d v
 | .mt a Z,v=>v=.ref a
theorem jD.now{V:V}{v:Value}{ms:a7}(h:jD w g V v ms):wj w g V v:=by cases V <;> first|exact h.2|exact h.1
noncomputable def codeOf(sc:List (Str×NameKind)):Option Addr:=if sc.lookup (Str.ofString "script")==some .local then some 798 else none
structure cS(sc:List (Str×NameKind))(env:Env):Prop where
 fn:env.scope.kind=.function
 gl:env.globals=mainGlobals
 OZ:env.builtins=builtinsNs
 loc:∀x,sc.lookup x=some .local->env.kindOf x=some .local
 jI:∀x,sc.lookup x=some .cell->env.kindOf x=some .cell
 ob:∀x,sc.lookup x=some .free->env.kindOf x=some .cell∨env.kindOf x=some .free
 EX:∀x,sc.lookup x=some .globalImplicit->env.kindOf x=some .globalImplicit
 wZ:∀x,env.kindOf x=some .cell∨env.kindOf x=some .free->∃ca,env.cells.lookup x=some ca
 pn:∀c,codeOf sc=some c->env.code=.ref c
noncomputable def isVar(sc:List (Str×NameKind))(x:Str):Bool:=match sc.lookup x with|some .local|some .cell|some .free=>true|_=>false
theorem cB.cell{L:Addr}{m:Str->Option Value}{cs ms R:a7}{h:Heap}{ca:Addr}{v:Value}(F:cB B L m g ((cs++ms)++R) h)(x:(∃o,(ca,o)∈cs/\o.data=.cell (some v))∨g ca=some (iQ v)):h.IsCell ca (some v):=by
 rcases x with⟨o,ho,hd⟩|x
 ·exact⟨o,F.cb.own (ca,o) (by simp[ho]),hd⟩
 ·refine aW (F.cb.dJ _ _ x) fun o aD ak=>?_
  exact⟨o,aD,ak⟩
theorem Vv{sc:List (Str×NameKind)}{x:Str}(h:isVar sc x=true):sc.lookup x=some .local∨sc.lookup x=some .cell∨sc.lookup x=some .free:=by
 unfold isVar at h
 cases e:sc.lookup x with
 | none=>rw[e] at h;cases h
 | some k=>rw[e] at h;cases k <;> first|exact .inl rfl|exact .inr (.inl rfl)|exact .inr (.inr rfl)|cases h
theorem I5{sc:List (Str×NameKind)}{x:Nat}{V:V}{ae:List Value}{m:Str->Option Value}{cs ms R:a7}{A:Around}{E:Value->Shared->Prop}{s:Shared}{K:Value->Shared->Prop}(ok:cS sc env)(aE:isVar sc (nm x)=true)(T:dP env m cs g ρ ae)(bu:c6 w g ρ ae ms)(F:cB B env.locals m g ((cs++ms)++R) s.heap)(aF:bT ρ x=some V)(bb:(nm x==("__classdict__":Str))=false)(k:∀v,wj w g V v->K v s):wpAny (model bD w) A (loadName env (nm x)) K E s:=
 fq (gV bu aF) fun v m₁ m₂ aD ak Z Z=>by
  have EY:=T.var x v aD
  rcases Vv aE with hs|hs|hs
  ·exact wpAny_loadName_local ok.fn (ok.loc _ hs) F.ns (EY.loc (ok.loc _ hs)) (k v ak.now)
  ·exact aW (EY.jI (.inl (ok.jI _ hs))) fun ca t1 jo=>wpAny_loadName_cell ok.fn (ok.jI _ hs) t1 (F.cell jo) (k v ak.now)
  ·refine aW (EY.jI (ok.ob _ hs)) fun ca t1 jo=>?_
   rcases ok.ob _ hs with av|av
   ·exact wpAny_loadName_cell ok.fn av t1 (F.cell jo) (k v ak.now)
   ·exact wpAny_loadName_free ok.fn av t1 (F.cell jo) (k v ak.now) (hn:=bb)
theorem b1.load{Q:Value->aO->G->Prop}{sc:List (Str×NameKind)}{x:Nat}{V:V}(ok:cS sc env)(aE:isVar sc (nm x)=true)(aF:bT ρ x=some V)(h:∀v,wj w g V v->Q v ρ g)(bb:(nm x==("__classdict__":Str))=false):b1 B n env (loadName env (nm x)) ρ g Q:=fun m cs ae ms T bu A E s R K aI F k=>
 I5 ok aE T bu F aF bb fun v aP=>k v m g (cs++ms) s.heap s.toks ⟨rfl,.refl g,ρ,ms,rfl,rfl,bu,h v aP⟩ F
theorem vx:∀x<d6.length,(nm x==("__classdict__":Str))=false/\(nm x==("__debug__":Str))=false:=by decide +kernel
theorem b1.name{Q:Value->aO->G->Prop}{sc:List (Str×NameKind)}{x:Nat}{V:V}{pos:Pos}(ok:cS sc env)(aE:isVar sc (nm x)=true)(aF:bT ρ x=some V)(h:∀v,wj w g V v->Q v ρ g):
  b1 B n env (eval (.Name (nm x) pos) env) ρ g Q:=fun m cs ae ms T bu=>by
 have aS:x<d6.length:=by refine iJ (gV bu aF) fun v Z Z aD Z=>?_;exact T.g6 x v aD
 have bc:=vx x aS
 exact da.wrap (fun A K E s h=>wpAny_Name h bc.2) (b1.load (n:=n) ok aE aF h bc.1 m cs ae ms T bu)
noncomputable abbrev bG:=aO->(D->aO->Prop)->Prop
noncomputable abbrev db:=aO->(Bool->aO->Prop)->Prop
noncomputable abbrev cj:=aO->(List D->aO->Prop)->Prop
inductive dM where
 | cx|dv (v:V)
noncomputable abbrev bh:=aO->(dM->aO->Prop)->Prop
noncomputable def rt(w:World)(g:G)(ρ:aO):dM->Flow->Prop
 | .cx,.next=>True
 | .dv (.aX d),.ret v=>Rep w g d v
 | .dv (.mt a o),.ret v=>v=.ref a/\∃x,bT ρ x=some (.mt a o)
 | Z,bt=>False
noncomputable def bI(B:bC w)(n:Nat)(sc:List (Str×NameKind))(e:Expr)(W:bG):Prop:=∀env,cS sc env->∀ρ g Q,W ρ Q->b1 B n env (eval e env) ρ g fun v ρ' ao=>∃d,Rep w ao d v/\Q d ρ'
noncomputable def ST(B:bC w)(n:Nat)(sc:List (Str×NameKind))(e:Expr)(W:db):Prop:=∀env,cS sc env->∀ρ g Q,W ρ Q->b1 B n env (isTrue e env (eval e env)) ρ g fun v ρ' ao=>Q v ρ'
noncomputable def hF(B:bC w)(n:Nat)(sc:List (Str×NameKind))(bw:List Expr)(W:cj):Prop:=∀env,cS sc env->∀pos ρ g Q,W ρ Q->b1 B n env (spliced (backTo pos (starEach bw env))) ρ g fun ae ρ' ao=>∃ds,bE w ao ds ae/\Q ds ρ'
noncomputable def dp(B:bC w)(n:Nat)(sc:List (Str×NameKind))(st:Stmt)(W:bh):Prop:=∀env,cS sc env->∀ρ g Q,W ρ Q->b9 B n env (exec st env) ρ g fun f ρ' ao=>∃a8,rt w ao ρ' a8 f/\Q a8 ρ'
noncomputable def SB(B:bC w)(n:Nat)(sc:List (Str×NameKind))(po:List Stmt)(W:bh):Prop:=∀env,cS sc env->∀ρ g Q,W ρ Q->b9 B n env (execs po env) ρ g fun f ρ' ao=>∃a8,rt w ao ρ' a8 f/\Q a8 ρ'
section
variable {sc:List (Str×NameKind)}
noncomputable def ag(x:Nat):bG:=fun ρ k=>match bT ρ x with
 | some (.aX d)=>k d ρ
 | some (.cf d)=>k d ρ
 | some (.mt a o)=>(match o.toD with|some d=>k d (st ρ x (.aX d))|none=>False)
 | none=>False
set_option tactic.hygienic true in
theorem cZ{x:Nat}{s:Str}{pos:Pos}(aE:isVar sc s=true)(hs:nm x=s):bI B n sc (.Name s pos) (ag x):=by
 subst hs
 intro env ok ρ g Q h
 unfold ag at h
 split at h
 ·rename_i d aF;exact .name ok aE aF fun v aP=>⟨d,aP,h⟩
 ·rename_i d aF;exact .name ok aE aF fun v aP=>⟨d,aP,h⟩
 ·rename_i a o aF
  split at h
  ·rename_i d hd
   have eE:bT (st ρ x (.aX d)) x=some (.aX d):=by
    clear h hd
    induction ρ with
    | nil=>exact ns aF
    | cons p r c9=>
     obtain⟨y,U⟩:=p
     unfold bT at aF;dsimp only[st]
     by_cases q:x=y
     ·rw[if_pos q];unfold bT;rw[if_pos q]
     ·rw[if_neg q] at aF ⊢;exact(if_neg q).trans (c9 aF)
   exact .Bw aF hd fun ao e r=>.name ok aE eE fun v aP=>⟨d,aP,h⟩
  ·exact h.elim
 ·exact h.elim
noncomputable def au(d:D):bG:=fun ρ k=>k d ρ
theorem e8{i:Int}{k:Nat}{pos:Pos}:bI B n sc (.Constant (.int i) k pos) (au (.int i)):=fun env ok ρ g Q h=>
 .op (.of fun A E s R K aI S Z b0=>wpAny_Constant_int (b0 _ (s.toks+1) ⟨_,by exact⟨_,rfl⟩,h⟩))
theorem q1{i:Str}{k:Nat}{pos:Pos}:bI B n sc (.Constant (.str i) k pos) (au (.str i)):=fun env ok ρ g Q h=>
 .op (.of fun A E s R K aI S Z b0=>Constant_str (b0 _ (s.toks+1) ⟨_,by exact⟨_,rfl⟩,h⟩))
theorem Cz{k:Nat}{pos:Pos}:bI B n sc (.Constant .none k pos) (au .none):=fun env ok ρ g Q h=>
 .op (.of fun A E s R K aI S Z b0=>wpAny_Constant_none (b0 _ s.toks ⟨_,by exact rfl,h⟩))
theorem yJ{b:Bool}{k:Nat}{pos:Pos}:bI B n sc (.Constant (.bool b) k pos) (au (.bool b)):=fun env ok ρ g Q h=>
 .op (.of fun A E s R K aI S Z b0=>wpAny_Constant_bool (b0 _ s.toks ⟨_,by exact rfl,h⟩))
noncomputable def fi(B:bC w)(n:Nat)(t:Value->Value->Sem Value)(W:D->D->(D->Prop)->Prop):Prop:=
 ∀(g:G) a b u v Q,Rep w g a u->Rep w g b v->W a b Q->dB B n (t u v) g (fun Z=>True) fun r ao=>∃d,Rep w ao d r/\Q d
noncomputable def l3(B:bC w)(n:Nat)(t:Value->Sem Value)(W:D->(D->Prop)->Prop):Prop:=
 ∀(g:G) a u Q,Rep w g a u->W a Q->dB B n (t u) g (fun Z=>True) fun r ao=>∃d,Rep w ao d r/\Q d
noncomputable def ak(W1 ef:bG)(op:D->D->(D->Prop)->Prop):bG:=fun ρ k=>W1 ρ fun a aY=>ef aY fun b bW=>op a b fun d=>k d bW
noncomputable def aD(W1:bG)(op:D->(D->Prop)->Prop):bG:=fun ρ k=>W1 ρ fun a aY=>op a fun d=>k d aY
theorem LY{l r:Expr}{o:Operator}{pos:Pos}{W1 ef:bG}{op:D->D->(D->Prop)->Prop}(aF:bI B n sc l W1)(aA:bI B n sc r ef)(ho:fi B n (binaryOp o) op):bI B n sc (.BinOp l o r pos) (ak W1 ef op):=fun env ok ρ g Q h=>by
 exact .bind ((aF env ok ρ g _ h).mono fun u aY bQ Z Zm=>by refine aW Zm fun a b8 cn=>?_;exact .bind (.holding ((aA env ok aY bQ _ cn).mono fun v bW cH ex Zn=>by refine aW Zn fun b cc cz=>?_;exact .standAt (.operate (.op (ho cH a b u v _ (b8.mono ex) cc cz))))))
theorem Zo{l r:Expr}{o:CmpOp}{pos:Pos}{W1 ef:bG}{op:D->D->(D->Prop)->Prop}(aF:bI B n sc l W1)(aA:bI B n sc r ef)(ho:fi B n (compareOp o) op)(hm:behindInMarks o r=false:=by rfl):
  bI B n sc (.Compare l [o] [r] pos) (ak W1 ef op):=fun env ok ρ g Q h=>by
 rw[eval_Compare1,markedBehindIn_of_false hm]
 exact .bind ((aF env ok ρ g _ h).mono fun u aY bQ Z Zq=>by refine aW Zq fun a b8 cn=>?_;exact .bind (.holding ((aA env ok aY bQ _ cn).mono fun v bW cH ex Zr=>by refine aW Zr fun b cc cz=>?_;exact .standAt (.operate (.op (ho cH a b u v _ (b8.mono ex) cc cz))))))
theorem ady{x:Expr}{o:UnaryOp}{pos:Pos}{W:bG}{op:D->(D->Prop)->Prop}(aE:bI B n sc x W)(ho:l3 B n (unaryOp o) op):bI B n sc (.UnaryOp o x pos) (aD W op):=fun env ok ρ g Q h=>
 .of_eq (t':=(do let v <- eval x env;PySem.standAt pos;PySem.holding [v] (unaryOp o v))) rfl (.bind ((aE env ok ρ g _ h).mono fun u aY bQ Z Zt=>by refine aW Zt fun a b8 cn=>?_;exact .standAt (.holding (.op (ho bQ a u _ b8 cn)))))
noncomputable def dK(T:db)(W1 ef:bG):bG:=fun ρ k=>T ρ fun b aY=>jj b (W1 aY k) (ef aY k)
theorem adz{test body orelse:Expr}{pos:Pos}{T:db}{W1 ef:bG}(ht:ST B n sc test T)(aS:bI B n sc body W1)(he:bI B n sc orelse ef):bI B n sc (.IfExp test body orelse pos) (dK T W1 ef):=fun env ok ρ g Q h=>
 .of_eq (t':=(do if <- isTrue test env (eval test env) then eval body env else eval orelse env)) rfl (.bind ((ht env ok ρ g _ h).mono fun b aY bQ Z cn=>by
  cases b
  ·exact he env ok aY bQ _ cn
  ·exact aS env ok aY bQ _ cn))
noncomputable def bl(W1 ef:bG)(op:D->D->(Bool->Prop)->Prop):db:=fun ρ k=>W1 ρ fun a aY=>ef aY fun b bW=>op a b fun d=>k d bW
noncomputable def d7(op:D->D->(Bool->Prop)->Prop):D->D->(D->Prop)->Prop:=fun a b k=>op a b fun c=>k (.bool c)
theorem b1.yd{Q:Bool->aO->G->Prop}{b:Bool}(h:Q b ρ g):b1 B n env (truthy (.bool b)) ρ g Q:=.op (.of fun A E s R K aI S Z b0=>wpAny_truthy_bool (b0 b s.toks h))
noncomputable def tD(k:Bool->Prop):D->Prop:=fun d=>match d with|.bool c=>k c|_=>False
theorem b1.JA{Q:Bool->aO->G->Prop}{d:D}{v:Value}{k:Bool->Prop}(h:Rep w g d v)(av:tD k d)(aL:∀b,k b->Q b ρ g:=by exact fun Z x=>x):b1 B n env (truthy v) ρ g Q:=by
 cases d <;> try exact av.elim
 subst h
 exact .yd (aL _ av)
theorem nU{l r:Expr}{o:CmpOp}{pos:Pos}{W1 ef:bG}{op:D->D->(Bool->Prop)->Prop}(aF:bI B n sc l W1)(aA:bI B n sc r ef)(ho:fi B n (compareOp o) (d7 op))(hm:behindInMarks o r=false:=by rfl):
  ST B n sc (.Compare l [o] [r] pos) (bl W1 ef op):=fun env ok ρ g Q h=>by
 rw[isTrue_Compare1,markedBehindIn_of_false hm]
 refine .bind ((aF env ok ρ g _ h).mono fun u aY bQ Z Zu=>aW Zu fun a b8 cn=>.bind (.holding ((aA env ok aY bQ _ cn).mono fun v bW cH ex Zv=>aW Zv fun b cc cz=>.standAt (.bind (.operate
  (b1.op ((ho cH a b u v (tD fun c=>Q c bW) (b8.mono ex) cc cz).mono (fun Z x=>x) fun r mn Z aA=>?_)))))))
 refine aW aA fun d hd aL=>?_
 exact .holding (.JA hd aL)
noncomputable def dy(W:bG):db:=fun ρ k=>W ρ fun d aY=>tD (fun b=>k b aY) d
theorem sH{e:Expr}{W:bG}(h:bI B n sc e W)(he:∀env,isTrue e env (eval e env)=(do let v <- eval e env;PySem.standAt e.pos;PySem.holding [v] (truthy v)):=by intro Z;rfl):ST B n sc e (dy W):=fun env ok ρ g Q aL=>by
 rw[he]
 exact .bind ((h env ok ρ g _ aL).mono fun v aY bQ Z Zw=>by refine aW Zw fun d hd cn=>?_;exact .standAt (.holding (.JA hd cn)))
noncomputable def xI(T:db):db:=fun ρ k=>T ρ fun b aY=>k (!b) aY
theorem Zx{x:Expr}{p:Pos}{T:db}(h:ST B n sc x T):ST B n sc (.UnaryOp .Not x p) (xI T):=fun env ok ρ g Q aL=>
 .of_eq (t':=(do return !(<- isTrue x env (eval x env)))) rfl (.bind ((h env ok ρ g _ aL).mono fun b aY bQ Z cn=>.pure cn))
noncomputable def SL(B:bC w)(n:Nat)(sc:List (Str×NameKind))(op:BoolOp)(bw:List Expr)(W:db):Prop:=∀env,cS sc env->∀ρ g Q,W ρ Q->b1 B n env (allTrue op bw env) ρ g fun v ρ' ao=>Q v ρ'
noncomputable def cg:db:=fun ρ k=>k true ρ
noncomputable def h3:db:=fun ρ k=>k false ρ
noncomputable def eW(T U:db):db:=fun ρ k=>T ρ fun b aY=>jj b (U aY k) (k false aY)
noncomputable def ew(T U:db):db:=fun ρ k=>T ρ fun b aY=>jj b (k true aY) (U aY k)
theorem WR:SL B n sc .And [] cg:=fun env ok ρ g Q h=>.of_eq (t':=(Pure.pure true:Sem Bool)) rfl (.pure h)
theorem LZ:SL B n sc .Or [] h3:=fun env ok ρ g Q h=>.of_eq (t':=(Pure.pure false:Sem Bool)) rfl (.pure h)
theorem Zy{x:Expr}{rest:List Expr}{T U:db}(h:ST B n sc x T)(aA:SL B n sc .And rest U):SL B n sc .And (x::rest) (eW T U):=fun env ok ρ g Q aL=>
 .of_eq (t':=(do
  match BoolOp.And,<- isTrue x env (eval x env) with
  | .And,false=>pure false
  | .Or,true=>pure true
  | Z,bt=>allTrue .And rest env)) rfl (.bind ((h env ok ρ g _ aL).mono fun b aY bQ Z cn=>by
  cases b
  ·exact .pure cn
  ·exact aA env ok aY bQ _ cn))
theorem DY{x:Expr}{rest:List Expr}{T U:db}(h:ST B n sc x T)(aA:SL B n sc .Or rest U):SL B n sc .Or (x::rest) (ew T U):=fun env ok ρ g Q aL=>
 .of_eq (t':=(do
  match BoolOp.Or,<- isTrue x env (eval x env) with
  | .And,false=>pure false
  | .Or,true=>pure true
  | Z,bt=>allTrue .Or rest env)) rfl (.bind ((h env ok ρ g _ aL).mono fun b aY bQ Z cn=>by
  cases b
  ·exact aA env ok aY bQ _ cn
  ·exact .pure cn))
theorem ML{op:BoolOp}{bw:List Expr}{p:Pos}{T:db}(h:SL B n sc op bw T):ST B n sc (.BoolOp op bw p) T:=fun env ok ρ g Q aL=>.of_eq rfl (h env ok ρ g Q aL)
noncomputable def NS(T U V:db):db:=fun ρ k=>T ρ fun b aY=>jj b (U aY k) (V aY k)
theorem adA{test body orelse:Expr}{pos:Pos}{T U V:db}(ht:ST B n sc test T)(aS:ST B n sc body U)(he:ST B n sc orelse V):ST B n sc (.IfExp test body orelse pos) (NS T U V):=fun env ok ρ g Q h=>
 .of_eq (t':=(do if <- isTrue test env (eval test env) then isTrue body env (eval body env) else isTrue orelse env (eval orelse env))) rfl (.bind ((ht env ok ρ g _ h).mono fun b aY bQ Z cn=>by
  cases b
  ·exact he env ok aY bQ _ cn
  ·exact aS env ok aY bQ _ cn))
noncomputable def az:cj:=fun ρ k=>k [] ρ
noncomputable def aj(W:bG)(R:cj):cj:=fun ρ k=>W ρ fun d aY=>R aY fun ds bW=>k (d::ds) bW
theorem fm:hF B n sc [] az:=fun env ok pos ρ g Q h=>.of_eq (t':=(Pure.pure []:Sem (List Value))) rfl (.pure ⟨[],by rfl,h⟩)
theorem ej{e:Expr}{rest:List Expr}{W:bG}{R:cj}(h:bI B n sc e W)(aA:hF B n sc rest R)(he:∀env,starEach (e::rest) env=(false,eval e env)::starEach rest env:=by intro Z;rfl):hF B n sc (e::rest) (aj W R):=
 fun env ok pos ρ g Q aL=>by
  rw[he]
  refine .of_eq (t':=(do
   let v <- eval e env
   let here <- (Pure.pure [v]:Sem (List Value))
   return here++(<- PySem.holding here (spliced (backTo pos (starEach rest env)))))) rfl ?_
  exact .bind ((h env ok ρ g _ aL).mono fun v aY bQ Z C8=>by refine aW C8 fun d hd cn=>?_;exact .bind (.pure (.bind (.holding ((aA env ok pos aY bQ _ cn).mono fun ae bW cH ex Zz=>by refine aW Zz fun ds cJ cz=>?_;exact .pure ⟨d::ds,by exact dW v ae rfl (hd.mono ex) cJ,cz⟩)))))
noncomputable def xJ(k:Nat):Prop:=k<=10000
noncomputable def pp(k:Nat):Bool:=Nat.ble k 10000
theorem m1{k:Nat}{P:Prop}(h:dO (pp k) P):xJ k/\P:=⟨Nat.le_of_ble_eq_true (eu h).1,(eu h).2⟩
theorem h2{k:Nat}(h:xJ k):k<=sizeLine:=Nat.le_trans h (by decide)
noncomputable def dN(R:cj):bG:=fun ρ k=>R ρ fun ds aY=>dO (pp ds.length) (k (.tup ds) aY)
noncomputable def eList(R:cj):bG:=fun ρ k=>R ρ fun ds aY=>dO (pp ds.length) (k (.list ds) aY)
theorem bE.length{w:World}{g:G}:∀{ds:List D} {ae:List Value},bE w g ds ae->ae.length=ds.length:=by
 intro es
 induction es with
 | nil=>
  intro Z h
  subst h;rfl
 | cons Z bt eo=>
  intro Z h
  refine dc h fun v r ZA ZB=>?_;subst ZA;refine bS ZB fun Z h=>?_;simp[eo h]
theorem dB.WT{ds:List D}{ae:List Value}{Pre:Heap->Prop}{Q:Value->G->Prop}(aA:bE w g ds ae)(hs:xJ ds.length)(h:∀v ao,Ext g ao->Rep w ao (.tup ds) v->Q v ao):dB B n (newTuple ae) g Pre Q:=
 .alloc (o:=tup ae) (P:=t7 ae) (v:=.ref) (fun A E s K l aI S Z k=>wpAny_newObj_type (k _ _ rfl) (by show ae.toArray.size<=sizeLine;exact List.size_toArray.symm▸aA.length.symm▸(h2 hs)))
  (fun a ao e eA=>h _ ao e (by exact dW a ae rfl eA (aA.mono e))) rfl
theorem dB.WU{ds:List D}{ae:List Value}{Pre:Heap->Prop}{Q:Value->G->Prop}(aA:bE w g ds ae)(hs:xJ ds.length)(h:∀v ao,Ext g ao->Rep w ao (.list ds) v->Q v ao):dB B n (newList ae) g Pre Q:=
 .alloc (o:=lst ae) (P:=gQ ae) (v:=.ref) (fun A E s K l aI S Z k=>wpAny_newObj_type (k _ _ rfl) (by show ae.toArray.size<=sizeLine;exact List.size_toArray.symm▸aA.length.symm▸(h2 hs)))
  (fun a ao e eA=>h _ ao e (by exact dW a ae rfl eA (aA.mono e))) ⟨0,rfl⟩
theorem sI{bw:List Expr}{k:Nat}{pos:Pos}{R:cj}(h:hF B n sc bw R):bI B n sc (.Tuple bw k pos) (dN R):=fun env ok ρ g Q aL=>
 .of_eq (t':=(do PySem.standAt pos;newTuple (<- spliced (backTo pos (starEach bw env))))) rfl (.standAt (.bind ((h env ok pos ρ g _ aL).mono fun ae aY bQ Z ZC=>by refine aW ZC fun ds cJ hs=>?_;exact .op (.WT cJ (m1 hs).1 fun v ao Z r=>⟨_,r,(m1 hs).2⟩))))
theorem CA{bw:List Expr}{pos:Pos}{R:cj}(h:hF B n sc bw R):bI B n sc (.List bw pos) (eList R):=fun env ok ρ g Q aL=>
 .of_eq (t':=(do PySem.standAt pos;newList (<- spliced (backTo pos (starEach bw env))))) rfl (.standAt (.bind ((h env ok pos ρ g _ aL).mono fun ae aY bQ Z ZD=>by refine aW ZD fun ds cJ hs=>?_;exact .op (.WU cJ (m1 hs).1 fun v ao Z r=>⟨_,r,(m1 hs).2⟩))))
end
end
section
variable {w:World} {B:bC w} {n:Nat} {env:Env} {ρ:aO} {g:G}
theorem c6.oa{V:V}{v:Value}{b2:a7}(fu:jD w g V v b2):∀{ρ:aO} {ae:List Value} {ms:a7} {x:Nat} {U:Nz.Internal.V},c6 w g ρ ae ms->bT ρ x=some U->
  ∃m₄ l,c6 w g (st ρ x V) (Nz.Internal.oa ρ ae x v) m₄/\(ms++b2).Perm (m₄++l)/\(∀y,dX (st ρ x V) (Nz.Internal.oa ρ ae x v) y=if y=x then some v else dX ρ ae y)/\(∀y,bT (st ρ x V) y=if y=x then some V else bT ρ y):=by
 intro es
 induction es with
 | nil=>
  intro Z Z Z Z Z h
  exact ns h
 | cons l1 ρ eo=>
  obtain⟨z,U⟩:=l1
  intro Z Z x xF iK h
  refine h9 iK fun kB r m₁ m₂ aw ai a3 bn=>?_
  subst aw ai
  unfold bT at h
  by_cases q:x=z
  ·replace h:=(if_pos q)▸h;obtain rfl:=Option.some.inj h
   subst q
   refine tr (b2++m₂) m₁ ?_ ?_ (fun y=>?_) (fun y=>?_)
   ·unfold st Nz.Internal.oa;exact(if_pos rfl).symm▸(if_pos rfl).symm▸(hy v r b2 m₂ rfl rfl fu bn)
   ·refine List.perm_append_comm.trans ?_
    rw[List.append_assoc]
    exact List.perm_append_comm.append_left b2
   ·unfold st Nz.Internal.oa;rw[if_pos rfl,if_pos rfl];dsimp only[dX]
    by_cases e:y=x
    ·rw[if_pos e,if_pos e]
    ·rw[if_neg e,if_neg e,if_neg e]
   ·unfold st;rw[if_pos rfl];dsimp only[bT]
    by_cases e:y=x
    ·rw[if_pos e,if_pos e]
    ·rw[if_neg e,if_neg e,if_neg e]
  ·rw[if_neg q] at h
   refine zG (eo bn h) fun m₄ l aD ak bz b5=>?_
   refine tr (m₁++m₄) l ?_ ?_ (fun y=>?_) (fun y=>?_)
   ·unfold st Nz.Internal.oa;exact(if_neg q).symm▸(if_neg q).symm▸(hy kB _ m₁ m₄ rfl rfl a3 aD)
   ·rw[List.append_assoc,List.append_assoc];exact ak.append_left m₁
   ·unfold st Nz.Internal.oa;rw[if_neg q,if_neg q];dsimp only[dX]
    by_cases e:y=z
    ·rw[if_pos e,if_pos e,if_neg (fun h:y=x=>q (h.symm.trans e))]
    ·rw[if_neg e,if_neg e];exact bz y
   ·unfold st;rw[if_neg q];dsimp only[bT]
    by_cases e:y=z
    ·rw[if_pos e,if_pos e,if_neg (fun h:y=x=>q (h.symm.trans e))]
    ·rw[if_neg e,if_neg e];exact b5 y
theorem c6.put{V:V}{v:Value}{b2:a7}{ae:List Value}{ms:a7}(x:Nat)(fu:jD w g V v b2)(bu:c6 w g ρ ae ms):
  ∃vs' m₄ l,c6 w g (hr ρ x V) vs' m₄/\(ms++b2).Perm (m₄++l)/\(∀y,dX (hr ρ x V) vs' y=if y=x then some v else dX ρ ae y)/\(∀y,bT (hr ρ x V) y=if y=x then some V else bT ρ y):=by
 unfold hr
 cases h:bT ρ x with
 | some U=>refine iY (c6.oa fu bu h) fun m₄ l z=>?_;exact EL _ m₄ l z
 | none=>
  refine pj (v::ae) (b2++ms) [] ⟨v,ae,b2,ms,rfl,rfl,fu,bu⟩ (by rw[List.append_nil];exact List.perm_append_comm) (fun y=>?_) (fun y=>?_)
  ·rfl
  ·rfl
noncomputable def eS(sc:List (Str×NameKind))(x:Str):Bool:=match sc.lookup x with|some .local|some .cell=>true|_=>false
theorem Vw{sc:List (Str×NameKind)}{x:Str}(h:eS sc x=true):sc.lookup x=some .local∨sc.lookup x=some .cell:=by
 unfold eS at h
 cases e:sc.lookup x with
 | none=>rw[e] at h;cases h
 | some k=>rw[e] at h;cases k <;> first|exact .inl rfl|exact .inr rfl|cases h
noncomputable def q2(ρ:aO)(x:Nat):Prop:=((bT ρ x).map (·.eV))≠some true
theorem fR.upd{m:Str->Option Value}{cs:a7}{x y:Str}{u v:Value}(aE:x≠y)(hm:fR env m cs g x v):fR env (fun z=>if z=y then some u else m z) cs g x v:=by
 unfold fR at hm ⊢
 cases av:env.kindOf x with
 | none=>trivial
 | some k=>
  rw[av] at hm
  cases k with
  | «local»=>exact(if_neg aE).trans hm
  | _=>exact hm
set_option genInjectivity true in
structure mP(x:Nat)(env:Env)(m:Str->Option Value)(cs:a7)(g:G)(ρ:aO)(ae:List Value):Prop where
 var:∀z v,z≠x->dX ρ ae z=some v->fR env m cs g (nm z) v
 own:∀z,env.kindOf (nm z)=some .cell->z≠x->((bT ρ z).map (·.eV))≠some true->∃ca o c,env.cells.lookup (nm z)=some ca/\(ca,o)∈cs/\o.data=.cell c
 inj:∀x y ca,env.cells.lookup x=some ca->env.cells.lookup y=some ca->x=y
 g6:∀z v,z≠x->dX ρ ae z=some v->z<d6.length
 jH:∀x ca,env.cells.lookup x=some ca->(∃o c,(ca,o)∈cs/\o.data=.cell c)∨∃P,g ca=some P
theorem dP.x{m:Str->Option Value}{cs:a7}{ae:List Value}(x:Nat)(T:dP env m cs g ρ ae):mP x env m cs g ρ ae:=⟨fun z v Z=>T.var z v,fun z av Z=>T.own z av,T.inj,fun z v Z=>T.g6 z v,T.jH⟩
theorem mP.mono{x:Nat}{m:Str->Option Value}{cs:a7}{g ao:G}{ρ ρ':aO}{ae:List Value}(T:mP x env m cs g ρ ae)(e:Ext g ao)(h:du ρ'=du ρ):mP x env m cs ao ρ' ae:=
 ⟨fun z v a5 aP=>(T.var z v a5 (vA h▸aP)).mono e,fun z aE a5 bb=>T.own z aE a5 (yI h▸bb),T.inj,fun z v a5 aP=>T.g6 z v a5 (vA h▸aP),fun x ca bb=>(T.jH x ca bb).imp id fun adB=>by refine cQ adB fun P dj=>?_;exact⟨P,e _ _ dj⟩⟩
theorem da.CB{sc:List (Str×NameKind)}{m:Str->Option Value}{m2 iu ms b2 m₄ l:a7}{ae vs':List Value}{x:Nat}{V:V}{v:Value}{bW:aO}(ok:cS sc env)(aE:eS sc (nm x)=true)(aS:x<d6.length)(T:mP x env m (m2++iu) g ρ ae)(mQ:env.kindOf (nm x)=some .cell->∃ca o c,env.cells.lookup (nm x)=some ca/\(ca,o)∈m2/\o.data=.cell c)(aD:c6 w g bW vs' m₄)(ak:(ms++b2).Perm (m₄++l))(bz:∀y,dX bW vs' y=if y=x then some v else dX ρ ae y)(b5:∀y,bT bW y=if y=x then some V else bT ρ y):da B n env.locals (storeName env (nm x) v) m g ((m2++iu)++(ms++b2))
   fun Z b3 ao ms'=>g=ao/\∃n1,dP env b3 (n1++iu) g bW vs'/\ms'=(n1++iu)++m₄/\(∀ca,(∃o c,(ca,o)∈m2/\o.data=.cell c)->∃o c,(ca,o)∈n1/\o.data=.cell c):=by
 have g6:∀y u,dX (bW) vs' y=some u->y<d6.length:=fun y u bj=>by
  rw[bz] at bj
  by_cases q:y=x
  ·exact q.symm▸aS
  ·rw[if_neg q] at bj;exact T.g6 y u q bj
 have old:∀y u,y≠x->dX (bW) vs' y=some u->dX ρ ae y=some u:=fun y u q bj=>by rwa [bz,if_neg q] at bj
 have NT:∀y,y≠x->((bT bW y).map (·.eV))≠some true->((bT ρ y).map (·.eV))≠some true:=fun y q bj=>by rwa [b5,if_neg q] at bj
 refine .y5 ?_
 intro A E s R K aI F k
 rcases Vw aE with hs|hs
 ·have av:=ok.loc _ hs
  refine wpAny_storeName_local av F.ns (fun aC hn gd=>?_) (by exact ok.fn.symm▸rfl)
  refine k () (fun y=>if y=nm x then some v else m y) g ((m2++iu)++(ms++b2)) aC (s.toks+1) ⟨(m2++iu)++m₄,l,?_,rfl,m2,⟨fun y u bj=>?_,fun y bj EZ=>?_,T.inj,g6,T.jH⟩,rfl,fun Z h=>h⟩ ?_
  ·rw[List.append_assoc (m2++iu) m₄ l];exact ak.append_left _
  ·by_cases q:y=x
   ·subst q
    rw[bz,if_pos rfl] at bj;obtain rfl:=Option.some.inj bj
    unfold fR;exact av.symm▸(if_pos rfl)
   ·have:=T.var y u q (old y u q bj)
    exact this.upd (fun e=>q (sv (g6 y u bj) aS e))
  ·by_cases q:y=x
   ·replace bj:=av▸q▸bj;contradiction
   ·exact T.own y bj q (NT y q EZ)
  ·refine aW F.open fun cm S c=>?_
   refine iJ hn fun bK bw ep ho r=>?_
   exact cB.close (S.update gd ho) ⟨bK,bw,ep,ho,r⟩
 ·have av:=ok.jI _ hs
  refine hN (mQ av) fun ca o c t1 jo t3=>?_
  refine wpAny_storeName_cell ok.fn av t1 ⟨o,(F.cb.own (ca,o) (by simp[jo])),t3⟩ fun aC hn gd=>?_
  obtain⟨bK,hR,fj⟩:=hn
  refine iY (List.append_of_mem jo) fun c₁ c₂ DZ=>?_
  subst DZ
  have eg:ca≠env.locals:=F.ot (ca,o) (by simp)
  have S:bx B g ((ca,o)::(c₁++(c₂++(iu++((ms++b2)++R))))) s.heap:=F.cb.perm (by
   simp only[List.append_assoc,List.cons_append];exact List.perm_middle)
  refine k () m g (((c₁++(ca,bK)::c₂)++iu)++(ms++b2)) aC s.toks ⟨((c₁++(ca,bK)::c₂)++iu)++m₄,l,?_,rfl,c₁++(ca,bK)::c₂,⟨fun y u bj=>?_,fun y bj EZ=>?_,T.inj,g6,fun z zR a5=>?_⟩,rfl,fun zR ⟨xK,cV,aw,ai⟩=>?_⟩ ?_
  ·rw[List.append_assoc ((c₁++(ca,bK)::c₂)++iu)];exact ak.append_left _
  ·by_cases q:y=x
   ·subst q
    rw[bz,if_pos rfl] at bj;obtain rfl:=Option.some.inj bj
    unfold fR;refine av.symm▸?_
    exact⟨ca,t1,.inl ⟨bK,by simp,fj⟩⟩
   ·have aP:=T.var y u q (old y u q bj)
    have fix:∀ey,env.cells.lookup (nm y)=some ey->((∃fM,(ey,fM)∈(c₁++(ca,o)::c₂)++iu/\fM.data=.cell (some u))∨g ey=some (iQ u))->((∃fM,(ey,fM)∈(c₁++(ca,bK)::c₂)++iu/\fM.data=.cell (some u))∨g ey=some (iQ u)):=by
     intro ey i0 ib
     refine ib.imp (fun ZE=>aW ZE fun fM hm hd=>⟨fM,?_,hd⟩) id
     have:ey≠ca:=fun e=>(fun e=>q (sv (g6 y u bj) aS e)) (T.inj _ _ _ (e▸i0) t1)
     simp only[List.mem_append,List.mem_cons,Prod.mk.injEq,this,false_and,false_or] at hm ⊢
     exact hm
    unfold fR at aP ⊢
    cases ez:env.kindOf (nm y) with
    | none=>trivial
    | some k'=>
     rw[ez] at aP
     cases k' with
     | cell=>obtain⟨ey,i0,ib⟩:=aP;exact⟨ey,i0,fix ey i0 ib⟩
     | free=>obtain⟨ey,i0,ib⟩:=aP;exact⟨ey,i0,fix ey i0 ib⟩
     | _=>exact aP
  ·by_cases F1:y=x
   ·exact F1.symm▸(ji ca bK _ t1 (by simp) fj)
   refine hN (T.own y bj F1 (NT y F1 EZ)) fun ey fM cV f1 f2 dL=>?_
   by_cases q:ey=ca
   ·subst q
    exact ji ey bK _ f1 (by simp) fj
   ·refine ji ey fM cV f1 ?_ dL
    simp only[List.mem_append,List.mem_cons,Prod.mk.injEq,q,false_and,false_or] at f2 ⊢
    exact f2
  ·refine(T.jH z zR a5).imp (fun⟨xK,cV,aw,ai⟩=>?_) id
   by_cases q:zR=ca
   ·subst q;exact hx bK _ (by simp) fj
   ·refine hx xK cV ?_ ai
    simp only[List.mem_append,List.mem_cons,Prod.mk.injEq,q,false_and,false_or] at aw ⊢
    exact aw
  ·by_cases q:zR=ca
   ·subst q;exact hx bK _ (by simp) fj
   ·refine hx xK cV ?_ ai
    simp only[List.mem_append,List.mem_cons,Prod.mk.injEq,q,false_and,false_or] at aw ⊢
    exact aw
  ·have p:((ca,bK)::(c₁++(c₂++(iu++((ms++b2)++R))))).Perm ((((c₁++(ca,bK)::c₂)++iu)++(ms++b2))++R):=by
    simp only[List.append_assoc,List.cons_append];exact List.perm_middle.symm
   refine⟨(S.update gd hR).perm p,F.ns.sameBut gd (Ne.symm eg),F.pG,fun q aL=>?_⟩
   rcases List.mem_cons.mp (p.mem_iff.mpr aL) with e|aL
   ·subst e;exact eg
   ·exact F.ot q (by
     have:q∈(ca,o)::(c₁++(c₂++(iu++((ms++b2)++R)))):=List.mem_cons_of_mem _ aL
     rw[List.append_assoc ms b2 R] at this
     simp only[List.append_assoc,List.cons_append]
     exact(List.perm_middle.symm.mem_iff).mp this)
theorem da.store{sc:List (Str×NameKind)}{m:Str->Option Value}{cs ms b2:a7}{ae:List Value}{x:Nat}{V:V}{v:Value}(ok:cS sc env)(aE:eS sc (nm x)=true)(aS:x<d6.length)(T:dP env m cs g ρ ae)(bu:c6 w g ρ ae ms)(fu:jD w g V v b2)(bb:q2 ρ x):da B n env.locals (storeName env (nm x) v) m g (cs++(ms++b2)) fun Z b3 ao ms'=>g=ao/\∃d5 vs' cr,dP env b3 d5 g (hr ρ x V) vs'/\ms'=d5++cr/\c6 w g (hr ρ x V) vs' cr:=by
 refine fq (bu.put x fu) fun vs' m₄ l aD ak bz b5=>?_
 have:=da.CB (B:=B) (n:=n) (m2:=cs) (iu:=[]) ok aE aS (by rw[List.append_nil];exact T.x x) (fun av=>T.own x av bb) aD ak bz b5
 rw[List.append_nil] at this
 exact this.mono fun Z b3 ao ms' ZF=>by refine bS ZF fun e adC=>?_;refine eT adC fun n1 t1 jo Z=>?_;exact⟨e,n1,vs',m₄,by rw[List.append_nil] at t1;exact t1,by rw[List.append_nil] at jo;exact jo,aD⟩
end
section
variable {w:World} {B:bC w} {n:Nat} {env:Env} {ρ:aO} {g:G} {sc:List (Str×NameKind)}
noncomputable def i1(ρ:aO)(x:Nat):Bool:=match bT ρ x with|some (.cf _)=>false|_=>true
theorem vM{x:Nat}(h:i1 ρ x=true):q2 ρ x:=by
 unfold i1 at h;unfold q2
 cases q:bT ρ x with
 | none=>exact nofun
 | some V=>cases V with
  | cf d=>rw[q] at h;cases h
  | _=>exact nofun
theorem b9.yK{Q:Unit->aO->G->Prop}{x:Nat}{d:D}{v:Value}(ok:cS sc env)(aE:eS sc (nm x)=true)(aS:x<d6.length)(aA:Rep w g d v)(bb:i1 ρ x=true)(h:Q () (hr ρ x (.aX d)) g):
  b9 B n env (storeName env (nm x) v) ρ g Q:=fun m cs ae ms T bu=>by
 have:=da.store (B:=B) (n:=n) (b2:=[]) (V:=.aX d) ok aE aS T bu ⟨rfl,aA⟩ (vM bb)
 rw[List.append_nil] at this
 exact this.mono fun Z b3 ao ms' iK=>by obtain⟨e,d5,vs',cr,dH,bt,cD⟩:=iK;subst e;exact⟨.refl _,_,d5,vs',cr,dH,bt,cD,h⟩
theorem b9.v3{Q:Unit->aO->G->Prop}{x:Nat}{d:D}{v:Value}(ok:cS sc env)(aE:eS sc (nm x)=true)(aS:x<d6.length)(aA:Rep w g d v)(bb:i1 ρ x=true)(h:Q () (hr ρ x (.aX d)) g):
  b9 B n env (bindName env (nm x) v) ρ g Q:=.wrap (fun Z Z Z Z h=>wpAny_bindName h) (.yK ok aE aS aA bb h)
theorem b9.sG{α:Type}{t:Sem α}{Q:α->G->Prop}(h:dB B n t g (fun Z=>True) Q):b9 B n env t ρ g fun v ρ' ao=>ρ=ρ'/\Q v ao:=.eD (.op (h.mono (fun Z x=>x) fun Z Z Z q=>⟨rfl,q⟩))
noncomputable def bM(x:Nat)(W:bG):bh:=fun ρ k=>W ρ fun d aY=>dO (i1 aY x) (putK aY x (.aX d) (k .cx))
theorem L0{x:Nat}{s:Str}{pos' pos:Pos}{value:Expr}{W:bG}(h:bI B n sc value W)(hs:nm x=s)(aE:eS sc s=true)(aS:x<d6.length:=by decide)(hw:∀env,swapsWith value (some (.Name s pos')) pos.line env=pure false:=by intro Z;rfl):dp B n sc (.Assign [.Name s pos'] value pos) (bM x W):=fun env ok ρ g Q aL=>by
 subst hs
 rw[exec_Assign_Name env _ pos' value pos (hw env)]
 exact .standAt (.bind (.mono (.eD (h env ok ρ g _ aL)) fun v aY bQ Z wk=>by refine aW wk fun d hd bb=>?_;exact .standAt (.bind (.v3 ok aE aS hd (eu bb).1 (.pure ⟨.cx,trivial,lM (eu bb).2⟩)))))
noncomputable def kh(x:Nat)(W:bG)(op:D->D->(D->Prop)->Prop):bh:=fun ρ k=>EW (bT ρ x) fun a=>W ρ fun b aY=>op a b fun d=>dO (i1 aY x) (putK aY x (.aX d) (k .cx))
theorem L1{x:Nat}{s:Str}{pos' pos:Pos}{o:Operator}{value:Expr}{W:bG}{op:D->D->(D->Prop)->Prop}(h:bI B n sc value W)(ho:fi B n (inplaceOp o) op)(hs:nm x=s)(aE:eS sc s=true)(aN:isVar sc s=true)(aS:x<d6.length:=by decide):
  dp B n sc (.AugAssign (.Name s pos') o value pos) (kh x W op):=fun env ok ρ g Q aL=>by
 subst hs
 exact LX aL fun a aF aL=>.standAt (.bind (.eD (.load ok aN aF (fun u (ahM:Rep w g a u)=>.bind (.holding (.mono (.eD (h env ok ρ g _ aL)) fun v aY bQ ex z=>aW z fun b tE g8=>.standAt (.bind (.operate
  ((b9.sG (ho bQ a b u v _ (ahM.mono ex) tE g8)).mono fun r bW cH Z z=>bS z fun ahN z=>aW z fun d hd bb=>ahN▸.standAt (.bind (.v3 ok aE aS hd (eu bb).1 (.pure ⟨.cx,trivial,lM (eu bb).2⟩)))))))))
  (vx x aS).1)))
noncomputable def bJ(W:bG):bh:=fun ρ k=>W ρ fun d aY=>k (.dv (.aX d)) aY
noncomputable def jx(x:Nat):bh:=fun ρ k=>kk (bT ρ x) fun a o=>k (.dv (.mt a o)) ρ
noncomputable def L2:bh:=fun ρ k=>k (.dv (.aX .none)) ρ
theorem WV{pos:Pos}:dp B n sc (.Return none pos) L2:=fun env ok ρ g Q aL=>by
 exact .standAt (.pure ⟨.dv (.aX .none),by rfl,aL⟩)
noncomputable def bF(T:db)(U V:bh):bh:=fun ρ k=>T ρ fun b aY=>jj b (U aY k) (V aY k)
theorem o5{test:Expr}{body orelse:List Stmt}{pos:Pos}{T:db}{U V:bh}(ht:ST B n sc test T)(aS:SB B n sc body U)(he:SB B n sc orelse V):dp B n sc (.If test body orelse pos) (bF T U V):=fun env ok ρ g Q aL=>by
 exact .standAt (.bind (.mono (.eD (ht env ok ρ g _ aL)) fun b aY bQ Z cn=>by
  cases b
  ·exact he env ok aY bQ _ cn
  ·exact aS env ok aY bQ _ cn))
noncomputable def aJ:bh:=fun ρ k=>k .cx ρ
noncomputable def ay(S R:bh):bh:=fun ρ k=>S ρ fun f aY=>match f with|.cx=>R aY k|.dv v=>k (.dv v) aY
theorem gp:SB B n sc [] aJ:=fun env ok ρ g Q aL=>.of_eq (t':=(Pure.pure .next:Sem Flow)) rfl (.pure ⟨.cx,trivial,aL⟩)
theorem fI{st:Stmt}{rest:List Stmt}{S R:bh}(h:dp B n sc st S)(aA:SB B n sc rest R):SB B n sc (st::rest) (ay S R):=fun env ok ρ g Q aL=>by
 skip
 refine .bind ((h env ok ρ g _ aL).mono fun f aY bQ Z cv=>?_)
 obtain⟨a8,hf,av⟩:=cv
 cases a8 with
 | cx=>
  cases f with
  | next=>exact aA env ok aY bQ _ av
  | _=>exact hf.elim
 | dv V=>
  cases f with
  | ret v=>exact .pure ⟨.dv V,hf,av⟩
  | next=>cases V <;> exact hf.elim
  | brk=>cases V <;> exact hf.elim
  | cont=>cases V <;> exact hf.elim
theorem b1.dropValue{e:Expr}{pos:Pos}{v:Value}{Q:Flow->aO->G->Prop}(h:Q .next ρ g):b1 B n env (PySem.dropValue e pos v) ρ g Q:=.op (.of fun A E s R K aI S Z k=>by
 have q:=k .next s.toks h
 unfold PySem.dropValue
 split
 ·exact wpAny_pure q
 ·exact wpAny_bind (wpAny_standAt (wpAny_bind (wpAny_runValue (codeAny_builtin entry_let_go (show wpAny _ _ (ret .none) _ _ s from wpAny_pure (wpAny_pure q))))))
 ·exact wpAny_pure q)
noncomputable def dG(W:bG):bh:=fun ρ k=>W ρ fun Z aY=>k .cx aY
theorem D0{e:Expr}{pos:Pos}{W:bG}(h:bI B n sc e W)(hs:∀env,swapsWith e none pos.line env=pure false:=by intro Z;rfl):dp B n sc (.Expr e pos) (dG W):=fun env ok ρ g Q aL=>by
 have aN:interactive env=false:=by unfold interactive;exact ok.fn.symm▸rfl
 exact(exec_Expr env e pos aN (hs env)).symm▸(.standAt (.bind (.mono (.eD (h env ok ρ g _ aL)) fun v aY bQ Z adD=>by refine aW adD fun d hd av=>?_;exact .eD (.dropValue ⟨.cx,trivial,av⟩))))
noncomputable def pq:bh:=fun Z Z=>False
theorem adE{st:Stmt}:dp B n sc st pq:=fun Z Z Z Z Z h=>h.elim
theorem MM{st:List Stmt}:SB B n sc st pq:=fun Z Z Z Z Z h=>h.elim
noncomputable def afP:bG:=fun Z Z=>False
theorem ek{e:Expr}:bI B n sc e afP:=fun Z Z Z Z Z h=>h.elim
end
section
variable {w:World} {B:bC w} {n:Nat} {env:Env} {ρ:aO} {g:G} {sc:List (Str×NameKind)}
theorem bE.get:∀{ds:List D} {ae:List Value} {i:Nat} {d:D},bE w g ds ae->ds[i]?=some d->∃v,ae[i]?=some v/\Rep w g d v:=by
 intro es
 induction es with
 | nil=>
  intro Z Z Z Z h
  simp at h
 | cons e ds eo=>
  intro Z i d aA h
  refine c0 aA fun v r ru aw ai=>?_
  subst ru
  cases i with
  | zero=>simp at h;subst h;exact⟨v,rfl,aw⟩
  | succ i=>simp only[List.getElem?_cons_succ] at h ⊢;exact eo ai h
theorem bE.none{ds:List D}{ae:List Value}{i:Nat}(h:bE w g ds ae)(e:ds[i]?=none):ae[i]?=none:=by
 rw[List.getElem?_eq_none_iff] at e ⊢;rw[h.length];exact e
noncomputable def eR(lo aN st:Int):List D:=List.map (fun i:Nat=>D.int (lo+(i:Int) * st)) (List.range (Builtin.Range.rangeSize lo aN st).toNat)
noncomputable def vN:D->Option (List D)
 | .list l=>some l
 | .tup l=>some l
 | .dict ks Z=>some (ks.map .str)
 | .hA lo aN st=>some (eR lo aN st)
 | Z=>none
structure rv(B:bC w)(n:Nat)(bU:Addr)(ds:List D)(g:G)(eZ:Nat->Obj->Prop):Prop where
 item:∀i o d ao,eZ i o->ds[i]?=some d->Ext g ao->∀(A:Around) (E:Value->Shared->Prop) (s:Shared) (R:a7) (K:Option Value->Shared->Prop),dk n A->bx B ao ((bU,o)::R) s.heap->
  (∀v bK aC t',Rep w ao d v->eZ (i+1) bK->bx B ao ((bU,bK)::R) aC->K (some v) {s with heap:=aC,toks:=t'})->wpAny (model bD w) A (pyNext (.ref bU)) K E s
 done:∀i o ao,eZ i o->ds[i]?=none->Ext g ao->∀(A:Around) (E:Value->Shared->Prop) (s:Shared) (R:a7) (K:Option Value->Shared->Prop),dk n A->bx B ao ((bU,o)::R) s.heap->
  (∀aC t',bx B ao R aC->K none {s with heap:=aC,toks:=t'})->wpAny (model bD w) A (pyNext (.ref bU)) K E s
 self:∀i o ao,eZ i o->Ext g ao->∀(A:Around) (E:Value->Shared->Prop) (s:Shared) (R:a7) (K:Value->Shared->Prop),dk n A->bx B ao ((bU,o)::R) s.heap->K (.ref bU) s->wpAny (model bD w) A (pyIter (.ref bU)) K E s
 tup:∀i o,eZ i o->o.cls=.type "list_iterator"∨o.cls=.type "tuple_iterator"∨o.cls=.type "dict_keyiterator"∨o.cls=.type "range_iterator"
theorem bx.extBut{l:a7}{h aC:Heap}{bU:Addr}{o:Obj}(S:bx B g ((bU,o)::l) h)(hs:Heap.ExtBut bU h aC):bx B g l aC:=by
 have bp:=S.apart (bU,o) (.head _)
 have i3:=List.nodup_cons.mp S.nodup
 refine⟨S.base,fun b x e=>?_,fun q aL=>?_,fun q aL=>S.apart q (.tail _ aL),i3.2⟩
 ·refine aW (S.dJ b x e) fun y aD ak=>?_
  exact⟨y,hs b y (fun q=>by subst q;replace e:=bp▸e;exact ns e) aD,ak⟩
 ·exact hs _ _ (fun e=>i3.1 (List.mem_map.mpr ⟨q,aL,e⟩)) (S.own q (.tail _ aL))
theorem gQ.isList{h:Heap}{a:Addr}{o:Obj}{ae:List Value}(e:h.get? a=some o)(p:gQ ae o):h.IsList a ae.toArray:=by obtain⟨k,rfl⟩:=p;exact gu _ e rfl ⟨k,rfl⟩
theorem t7.yt{h:Heap}{a:Addr}{o:Obj}{ae:List Value}(e:h.get? a=some o)(p:t7 ae o):h.IsTuple a ae.toArray:=by subst p;exact gu _ e rfl ⟨0,rfl⟩
theorem jW.dictOf{h:Heap}{a:Addr}{o:Obj}{m0:List (Str×Value)}(e:h.get? a=some o)(p:jW w m0 o):h.DictOf (strKind bD w) a m0:=by refine iY p fun bw ep x=>?_;exact tv o bw ep e x
theorem TY{a:Addr}{ae:List Value}{ds:List D}(ga:g a=some (gQ ae))(aA:bE w g ds ae)(A:Around)(E:Value->Shared->Prop)(s:Shared)(R:a7)(K:Value->Shared->Prop)(aI:dk n A)(S:bx B g R s.heap)(k:∀bU o eZ aC t',eZ 0 o->rv B n bU ds g eZ->bx B g ((bU,o)::R) aC->K (.ref bU) {s with heap:=aC,toks:=t'}):wpAny (model bD w) A (pyIter (.ref a)) K E s:=by
 refine aW (S.dJ _ _ ga) fun pH aD ak=>?_
 refine wpAny_pyIter_list (ak.isList aD) ?_
 refine k s.heap.objs.size _ (fun i o=>o.cls=.type "list_iterator"/\o.data=.fields #[.ref a,.int i 0]) _ s.toks ⟨rfl,rfl⟩ ⟨?_,?_,?_,fun Z Z h=>.inl h.1⟩ (S.push _)
 ·intro i o d ao eB hd ex A E s R K aI S k
  refine aW (S.dJ _ _ (ex _ _ ga)) fun pH aD ak=>?_
  refine aW ((aA.mono ex).get hd) fun v aP l4=>?_
  refine wpAny_pyNext_list_item (i:=i) (x:=v) ⟨o,S.own (_,o) (.head _),eB⟩ (ak.isList aD) (by simpa using aP) fun aC aN hs=>?_
  refine aW aN fun bK hR jJ=>?_
  exact k v bK aC s.toks l4 jJ (S.update hs hR)
 ·intro i o ao eB hd ex A E s R K aI S k
  refine aW (S.dJ _ _ (ex _ _ ga)) fun pH aD ak=>?_
  exact wpAny_pyNext_list_end (i:=i) aI.1 ⟨o,S.own (_,o) (.head _),eB⟩ (ak.isList aD) (by simpa using aA.none hd) fun aC hs=>k aC s.toks (S.extBut hs)
 ·intro i o ao eB ex A E s R K aI S k
  exact wpAny_pyIter_listiter (i:=i) ⟨o,S.own (_,o) (.head _),eB⟩ k
theorem Uz{a:Addr}{ae:List Value}{ds:List D}(ga:g a=some (t7 ae))(aA:bE w g ds ae)(A:Around)(E:Value->Shared->Prop)(s:Shared)(R:a7)(K:Value->Shared->Prop)(aI:dk n A)(S:bx B g R s.heap)(k:∀bU o eZ aC t',eZ 0 o->rv B n bU ds g eZ->bx B g ((bU,o)::R) aC->K (.ref bU) {s with heap:=aC,toks:=t'}):wpAny (model bD w) A (pyIter (.ref a)) K E s:=by
 refine aW (S.dJ _ _ ga) fun pH aD ak=>?_
 refine wpAny_pyIter_tuple (ak.yt aD) ?_
 refine k s.heap.objs.size _ (fun i o=>o.cls=.type "tuple_iterator"/\o.data=.fields #[.ref a,.int i 0]) _ s.toks ⟨rfl,rfl⟩ ⟨?_,?_,?_,fun Z Z h=>.inr (.inl h.1)⟩ (S.push _)
 ·intro i o d ao eB hd ex A E s R K aI S k
  refine aW (S.dJ _ _ (ex _ _ ga)) fun pH aD ak=>?_
  refine aW ((aA.mono ex).get hd) fun v aP l4=>?_
  refine wpAny_pyNext_tuple_item (i:=i) (x:=v) ⟨o,S.own (_,o) (.head _),eB⟩ (ak.yt aD) (by simpa using aP) fun aC aN hs=>?_
  refine aW aN fun bK hR jJ=>?_
  exact k v bK aC s.toks l4 jJ (S.update hs hR)
 ·intro i o ao eB hd ex A E s R K aI S k
  refine aW (S.dJ _ _ (ex _ _ ga)) fun pH aD ak=>?_
  exact wpAny_pyNext_tuple_end (i:=i) aI.1 ⟨o,S.own (_,o) (.head _),eB⟩ (ak.yt aD) (by simpa using aA.none hd) fun aC hs=>k aC s.toks (S.extBut hs)
 ·intro i o ao eB ex A E s R K aI S k
  exact wpAny_pyIter_tupleiter (i:=i) (t:=a) ⟨o,S.own (_,o) (.head _),eB⟩ k
theorem TZ{a:Addr}{O0:Obj}{ks:List Str}{ae:List Value}(hd:(a==sysModules)=false)(ga:g a=f7 O0)(w0:jW w (ks.zip ae) O0)(aF:ks.length=ae.length)(A:Around)(E:Value->Shared->Prop)(s:Shared)(R:a7)(K:Value->Shared->Prop)(aI:dk n A)(S:bx B g R s.heap)(k:∀bU o eZ aC t',eZ 0 o->rv B n bU (ks.map .str) g eZ->bx B g ((bU,o)::R) aC->K (.ref bU) {s with heap:=aC,toks:=t'}):wpAny (model bD w) A (pyIter (.ref a)) K E s:=by
 refine aW (S.dJ _ _ ga) fun pH aD ak=>?_
 subst ak
 refine iY w0 fun bw ep w0=>?_
 have at_:∀{ao:G} {l:a7} {h:Heap},Ext g ao->bx B ao l h->h.DictAt (strKind bD w) a (ks.zip ae) ep:=fun ex S=>by
  refine aW (S.dJ _ _ (ex _ _ ga)) fun pH aD ak=>?_
  subst ak;exact hx _ bw aD w0
 refine wpAny_pyIter_dict hd (at_ (.refl g) S) ?_
 refine k s.heap.objs.size _ (fun i o=>o.cls=.type "dict_keyiterator"/\o.data=.fields #[.ref a,.int i 0,.int (ks.zip ae).length 0,.int ep 0]) _ s.toks ⟨rfl,rfl⟩ ⟨?_,?_,?_,fun Z Z h=>.inr (.inr (.inl h.1))⟩ (S.push _)
 ·intro i o d ao eB fj ex A E s R K aI S k
  replace fj:=(List.getElem?_map)▸fj
  refine aW (Option.map_eq_some_iff.mp fj) fun x aE adF=>?_
  subst adF
  have fY:i<ae.length:=by exact aF▸((List.getElem?_eq_some_iff.mp aE).1)
  have a5:(ks.zip ae)[i]?=some (x,ae[i]):=by rw[List.getElem?_zip_eq_some];exact⟨aE,by simp[fY]⟩
  refine wpAny_pyNext_dict_item (i:=i) ⟨o,S.own (_,o) (.head _),eB⟩ (at_ ex S) a5 fun key aC av aN hs=>?_
  refine aW aN fun bK hR jJ=>?_
  refine cQ (Value.isStrOf_shape av) fun t E0=>?_
  subst E0
  exact k _ bK aC s.toks (by exact⟨t,rfl⟩) jJ (S.update hs hR)
 ·intro i o ao eB fj ex A E s R K aI S k
  rw[List.getElem?_map,Option.map_eq_none_iff,List.getElem?_eq_none_iff] at fj
  exact wpAny_pyNext_dict_end (i:=i) aI.1 ⟨o,S.own (_,o) (.head _),eB⟩ (at_ ex S) (by rw[List.getElem?_eq_none_iff,(show (ks.zip ae).length=ks.length from by simp[aF])];exact fj) fun aC hs=>k aC s.toks (S.extBut hs)
 ·intro i o ao eB ex A E s R K aI S k
  exact wpAny_pyIter_keyiter (i:=i) (n:=(ks.zip ae).length) (ep:=ep) (d:=a) ⟨o,S.own (_,o) (.head _),eB⟩ k
theorem UA{a:Addr}{lo aN st:Int}(ga:g a=some (FY lo aN st))(hs:Builtin.Range.small lo aN st=true)(A:Around)(E:Value->Shared->Prop)(s:Shared)(R:a7)(K:Value->Shared->Prop)(aI:dk n A)(S:bx B g R s.heap)(k:∀bU o eZ aC t',eZ 0 o->rv B n bU (eR lo aN st) g eZ->bx B g ((bU,o)::R) aC->K (.ref bU) {s with heap:=aC,toks:=t'}):wpAny (model bD w) A (pyIter (.ref a)) K E s:=by
 refine aW (S.dJ _ _ ga) fun pH aD ZG=>?_
 refine tn ZG fun t u v ZH=>?_
 subst ZH
 refine wpAny_pyIter_range aD hs ?_
 refine k s.heap.objs.size _ (fun i o=>o={cls:=.type "range_iterator",dict:=none,data:=.fields #[rawInt (lo+(i:Int) * st),rawInt (Builtin.Range.rangeSize lo aN st - i),rawInt st],slots:=#[]}) _ s.toks (by simp) ⟨?_,?_,?_,fun Z Z h=>.inr (.inr (.inr (by exact congrArg _ h)))⟩ (S.push _)
 ·intro i o d ao eB hd ex A E s R K aI S k
  subst eB
  unfold eR at hd
  rw[List.getElem?_map] at hd
  refine aW (Option.map_eq_some_iff.mp hd) fun j bL ZI=>?_
  subst ZI
  obtain⟨fY,rfl⟩:=List.getElem?_eq_some_iff.mp bL
  rw[List.length_range] at fY
  refine wpAny_pyNext_range_item (x:=lo+(i:Int) * st) (left:=Builtin.Range.rangeSize lo aN st - i) (step:=st) (S.own (_,_) (.head _)) (by lia) fun aC pr gd=>?_
  refine k _ _ aC (s.toks+1) (by rw[List.getElem_range];exact⟨_,rfl⟩) ?_ (S.update gd pr)
  have a1:lo+(i:Int) * st+st=lo+((i+1:Nat):Int) * st:=by rw[Int.natCast_add,Int.add_mul];simp[Int.add_assoc]
  rw[a1,(show Builtin.Range.rangeSize lo aN st - i - 1=Builtin.Range.rangeSize lo aN st - ((i+1:Nat):Int) from by lia)]
 ·intro i o ao eB hd ex A E s R K aI S k
  subst eB
  unfold eR at hd
  rw[List.getElem?_map,Option.map_eq_none_iff,List.getElem?_eq_none_iff,List.length_range] at hd
  exact wpAny_pyNext_range_end (x:=lo+(i:Int) * st) (left:=Builtin.Range.rangeSize lo aN st - i) (step:=st) aI.1 (S.own (_,_) (.head _)) (by lia) fun aC gd=>k aC s.toks (S.extBut gd)
 ·intro i o ao eB ex A E s R K aI S k
  subst eB
  exact wpAny_pyIter_rangeiter (S.own (_,_) (.head _)) k
theorem yk{d:D}{ds:List D}{v:Value}(aN:vN d=some ds)(aA:Rep w g d v)(A:Around)(E:Value->Shared->Prop)(s:Shared)(R:a7)(K:Value->Shared->Prop)(aI:dk n A)(S:bx B g R s.heap)(k:∀bU o eZ aC t',eZ 0 o->rv B n bU ds g eZ->bx B g ((bU,o)::R) aC->K (.ref bU) {s with heap:=aC,toks:=t'}):wpAny (model bD w) A (pyIter v) K E s:=by
 cases d with
 | list l=>injection aN with aN;subst aN;refine c0 aA fun a ae C9 aw ai=>?_;subst C9;exact TY aw ai A E s R K aI S k
 | tup l=>injection aN with aN;subst aN;refine c0 aA fun a ae ZJ aw ai=>?_;subst ZJ;exact Uz aw ai A E s R K aI S k
 | dict ks l=>injection aN with aN;subst aN;refine zI aA fun a ae o Da aw ai a3 bn bN=>?_;subst Da;exact TZ bn aw ai a3 A E s R K aI S k
 | hA lo pr st=>obtain rfl:=Option.some.inj aN;refine eT aA fun a ZK aw ai=>?_;subst ZK;exact UA aw ai A E s R K aI S k
 | _=>exact ns aN
noncomputable def kl(dr:List Nat)(ρ:aO):Bool:=ρ.all fun p=>!(dr.contains p.1&&p.2.eV)
noncomputable def gb(dr:List Nat):aO->aO
 | []=>[]
 | p::r=>cond (dr.contains p.1) (gb dr r) (p::gb dr r)
theorem Kl{dr:List Nat}{x:Nat}:∀{ρ:aO},bT (gb dr ρ) x=cond (dr.contains x) none (bT ρ x)
 | []=>by cases dr.contains x <;> rfl
 | (y,V)::r=>by
  have c9:=Kl (dr:=dr) (x:=x) (ρ:=r)
  show bT (cond (dr.contains y) (gb dr r) ((y,V)::gb dr r)) x=cond _ _ (if x=y then some V else bT r x)
  by_cases q:x=y
  ·subst q;refine(if_pos rfl).symm▸?_
   cases h:dr.contains x
   ·exact if_pos rfl
   ·rw[h] at c9;exact c9
  ·refine(if_neg q).symm▸c9▸?_
   cases dr.contains y
   ·exact if_neg q
   ·rfl
theorem c6.drop{dr:List Nat}:∀{ρ:aO} {ae:List Value} {ms:a7},c6 w g ρ ae ms->∃vs' ms',c6 w g (gb dr ρ) vs' ms'/\ms'.Sublist ms/\∀x,dX (gb dr ρ) vs' x=cond (dr.contains x) none (dX ρ ae x)
 | [],_,_,⟨rfl,rfl⟩=>dW [] [] ⟨rfl,rfl⟩ (.refl _) (fun x=>by cases dr.contains x <;> rfl)
 | (y,V)::r,_,_,⟨v,ae,m₁,m₂,rfl,rfl,fu,bu⟩=>by
  refine c0 (bu.drop (dr:=dr)) fun vs' ms' jU hs e=>?_
  have ak:gb dr ((y,V)::r)=cond (dr.contains y) (gb dr r) ((y,V)::gb dr r):=rfl
  refine ak.symm▸?_
  cases h:dr.contains y
  ·refine dW (v::vs') (m₁++ms') ⟨v,vs',m₁,ms',rfl,rfl,fu,jU⟩ (hs.append_left _) (fun x=>?_)
   show (if x=y then _ else dX (gb dr r) vs' x)=cond _ _ (if x=y then _ else _)
   by_cases q:x=y
   ·subst q;rw[if_pos rfl,if_pos rfl,h];rfl
   ·rw[if_neg q,if_neg q];exact e x
  ·refine dW vs' ms' jU (hs.trans (List.sublist_append_right _ _)) (fun x=>?_)
   rw[cond_true]
   show _=cond _ _ (if x=y then _ else _)
   by_cases q:x=y
   ·subst q;rw[e,h];rfl
   ·rw[if_neg q];exact e x
theorem WW{dr:List Nat}{x:Nat}(aE:dr.contains x=true):∀{ρ:aO},kl dr ρ=true->(bT ρ x).map (·.eV)≠some true:=by
 intro es
 induction es with
 | nil=>
  intro Z e
  exact ns e
 | cons l1 r eo=>
  obtain⟨y,V⟩:=l1
  intro h e
  obtain⟨aw,ai⟩:=Bool.and_eq_true_iff.mp h
  unfold bT at e
  by_cases q:x=y
  ·subst q;replace e:=(if_pos rfl)▸e
   dsimp only at aw
   replace aw:=(show V.eV=true from Option.some.inj e)▸aE▸aw;injection aw
  ·rw[if_neg q] at e;exact eo ai e
theorem dP.drop{m:Str->Option Value}{cs:a7}{ae vs':List Value}{dr:List Nat}(T:dP env m cs g ρ ae)(hd:kl dr ρ=true)(e:∀x,dX (gb dr ρ) vs' x=cond (dr.contains x) none (dX ρ ae x)):dP env m cs g (gb dr ρ) vs':=by
 have old:∀x v,dX (gb dr ρ) vs' x=some v->dX ρ ae x=some v:=fun x v aP=>by
  rw[e] at aP;cases h:dr.contains x <;> rw[h] at aP;exact aP;exact ns aP
 refine⟨fun x v aP=>T.var x v (old x v aP),fun x av bb=>T.own x av ?_,T.inj,fun x v aP=>T.g6 x v (old x v aP),T.jH⟩
 cases h:dr.contains x
 ·rw[Kl,h] at bb;exact bb
 ·exact WW h hd
noncomputable def im(asg:D->aO->(aO->Prop)->Prop)(dr:List Nat)(cO:bh)(ds:List D):aO->(dM->aO->Prop)->Prop:=
 List.rec (motive:=fun Z=>aO->(dM->aO->Prop)->Prop) (fun ρ k=>k .cx ρ) (fun d Z c9 ρ k=>asg d ρ fun aY=>cO aY fun a8 ρ'=>match a8 with|.cx=>dO (kl dr ρ') (c9 (gb dr ρ') k)|.dv v=>k (.dv v) ρ') ds
noncomputable def Db(asg:D->aO->(aO->Prop)->Prop)(dr:List Nat)(W:bG)(cO:bh):bh:=fun ρ k=>W ρ fun d aY=>match vN d with|some ds=>im asg dr cO ds aY k|none=>False
noncomputable def zl(x:Nat)(d:D)(ρ:aO)(k:aO->Prop):Prop:=dO (i1 ρ x) (putK ρ x (.aX d) k)
noncomputable abbrev forL(x:Nat)(dr:List Nat)(cO:bh):=im (zl x) dr cO
noncomputable abbrev dF(x:Nat)(dr:List Nat)(W:bG)(cO:bh):bh:=Db (zl x) dr W cO
noncomputable def St(B:bC w)(env:Env)(g:G)(ρ:aO)(R:a7)(h:Heap):Prop:=∃m cs ae ms,dP env m cs g ρ ae/\c6 w g ρ ae ms/\cB B env.locals m g ((cs++ms)++R) h
theorem b9.run{α:Type}{t:Sem α}{Q:α->aO->G->Prop}(h:b9 B n env t ρ g Q){A:Around}{E:Value->Shared->Prop}{s:Shared}{R:a7}{K:α->Shared->Prop}(aI:dk n A)(S:St B env g ρ R s.heap)(k:∀v ρ' ao aC t',Ext g ao->Q v ρ' ao->St B env ao ρ' R aC->K v {s with heap:=aC,toks:=t'}):wpAny (model bD w) A t K E s:=by
 refine l0 S fun m cs ae ms T bu F=>?_
 exact h m cs ae ms T bu A E s R K aI F fun v b3 ao ms' aC t' ZL cI=>by refine ZL.e fun ex ρ' d5 vs' cr hb e d1 q=>?_;exact k v ρ' ao aC t' ex q ⟨b3,d5,vs',cr,hb,d1,e▸cI⟩
theorem b9.of{α:Type}{t:Sem α}{Q:α->aO->G->Prop}(h:∀(A:Around) (E:Value->Shared->Prop) (s:Shared) (R:a7) (K:α->Shared->Prop),dk n A->St B env g ρ R s.heap->
  (∀v ρ' ao aC t',Ext g ao->Q v ρ' ao->St B env ao ρ' R aC->K v {s with heap:=aC,toks:=t'})->wpAny (model bD w) A t K E s):b9 B n env t ρ g Q:=fun m cs ae ms T bu A E s R K aI F k=>
 h A E s R K aI ⟨m,cs,ae,ms,T,bu,F⟩ fun v ρ' ao aC t' ex q ZM=>by refine l0 ZM fun b3 d5 vs' ms' hb d1 cI=>?_;exact k v b3 ao (d5++ms') aC t' ⟨ex,ρ',d5,vs',ms',hb,rfl,d1,q⟩ cI
theorem St.lN{R:a7}{h:Heap}(S:St B env g ρ R h):∃l,bx B g (l++R) h/\∀(ao:G) jU aC,Ext g ao->bx B ao (l++jU) aC->St B env ao ρ jU aC:=by
 refine l0 S fun m cs ae ms T bu F=>?_
 refine aW F.open fun o S c=>?_
 refine⟨(env.locals,o)::(cs++ms),S,fun ao jU aC ex bZ=>NI m cs ae ms (T.mono ex rfl) (bu.mono ex) (cB.close bZ (c _ (bZ.own (env.locals,o) (.head _))))⟩
theorem nK{α:Type}(l:List α)(p:α)(R:List α):(l++p::R).Perm (p::(l++R)):=List.perm_middle
theorem St.drop{dr:List Nat}{R:a7}{h:Heap}(S:St B env g ρ R h)(hd:kl dr ρ=true):St B env g (gb dr ρ) R h:=by
 refine l0 S fun m cs ae ms T bu F=>?_
 refine c0 (bu.drop (dr:=dr)) fun vs' ms' d1 hs e=>?_
 have p:=((hs.append_left cs).append_right R)
 exact NI m cs vs' ms' (T.drop hd e) d1 ⟨F.cb.sub p,F.ns,F.pG,fun q aL=>F.ot q (p.subset aL)⟩
theorem St.leave{R:a7}{h:Heap}{q:Addr×Obj}(S:St B env g ρ (q::R) h):St B env g ρ R h:=by
 refine aW S.lN fun l bZ back=>?_
 exact back g R h (.refl _) (bZ.sub (List.Sublist.append_left (List.sublist_cons_self _ _) l))
theorem Ld{asg:D->aO->(aO->Prop)->Prop}{dr:List Nat}{target:Expr}{pos:Pos}{iter:Expr}{body:List Stmt}{W:bG}{cO:bh}(h:bI B n sc iter W)(aS:SB B n sc body cO)(hf:∀env y,foldedSetIterable iter env y=pure y)(bp:∀(env:Env) (ok:cS sc env) d v (ρ:aO) (g:G) k,Rep w g d v->asg d ρ k->b9 B n env (assign target env v) ρ g fun Z ρ' Z=>k ρ')(ho:∀(env:Env) (bU:Addr) (o:Obj) v (A:Around) (E:Value->Shared->Prop) (s:Shared) (K:Unit->Shared->Prop),s.heap.get? bU=some o->(o.cls=.type "list_iterator"∨o.cls=.type "tuple_iterator"∨o.cls=.type "dict_keyiterator"∨o.cls=.type "range_iterator")->K () s->wpAny (model bD w) A (letOwnedTupleGo target (.ref bU) v) K E s):
  dp B n sc (.For target iter body [] pos) (Db asg dr W cO):=fun env ok ρ g Q aL=>by
 refine .of fun A E s R K aI S k=>?_
 refine wpAny_For (hs:=hf env) (b9.run (.eD (h env ok ρ g _ aL)) aI S fun v aY bQ cn ic eI cv cM=>?_)
 refine aW cv fun d hd aL=>?_
 split at aL
 ·rename_i ds cJ
  refine aW cM.lN fun l bZ back=>?_
  refine yk (n:=n) cJ hd A _ _ (l++R) _ aI bZ fun bU o eZ cz dz eB bY cC=>?_
  have NU:=back bQ _ _ (.refl _) (cC.perm (nK l (bU,o) R).symm)
  refine codeAny_forLoop_any (fun j bP=>∃i bK ρ' ao aC t',bP={s with heap:=aC,toks:=t'}/\j=ds.length+1 - i/\i<=ds.length/\eZ i bK/\Ext bQ ao/\St B env ao ρ' ((bU,bK)::R) aC/\im asg dr cO (ds.drop i) ρ' Q) ?_ (ds.length+1)
   ⟨0,o,aY,bQ,cz,dz,rfl,rfl,Nat.zero_le _,eB,.refl _,NU,by exact aL⟩
  clear aL eB cC NU cM bZ back hd
  intro j bP ZN
  refine EF ZN fun i bK ρ' ao aC t' ZO ZP aN jJ e1 dq g8=>?_
  subst ZO
  subst ZP
  refine aW dq.lN fun pI tF v4=>?_
  have D1:=tF.perm (nK pI (bU,bK) R)
  by_cases fY:i<ds.length
  ·rw[List.drop_eq_getElem_cons fY] at g8
   refine bY.item i bK ds[i] ao jJ (List.getElem?_eq_getElem fY) e1 A _ _ (pI++R) _ aI D1 fun kB hB kC rL aP rd hG=>ho env bU hB _ _ _ _ _ (hG.own (bU,hB) (.head _)) (bY.tup _ _ rd) ?_
   refine b9.run (bp env ok _ _ ρ' ao _ aP g8) aI (v4 ao ((bU,hB)::R) kC (.refl _) (hG.perm (nK pI (bU,hB) R).symm)) fun Z ahO Ah pJ O1 w1 NV jY=>?_
   refine b9.run (aS env ok _ Ah _ NV) aI jY fun f rM nd lm nf km l5 kD=>?_
   obtain⟨a8,gL,av⟩:=l5
   have zS:=(e1.trans w1).trans km
   clear aP jJ dq tF v4 D1 g8 hG NV jY w1 km e1
   cases a8 with
   | cx=>
    obtain⟨hd,av⟩:=eu av
    cases f with
    | next=>exact⟨ds.length+1 - (i+1),by (first|lia|omega),i+1,hB,_,nd,lm,nf,rfl,rfl,fY,rd,zS,kD.drop hd,av⟩
    | _=>exact gL.elim
   | dv V=>
    cases f with
    | ret v=>exact k _ rM nd lm nf (eI.trans zS) ⟨.dv V,gL,av⟩ kD.leave
    | _=>cases V <;> exact gL.elim
  ·rw[List.drop_of_length_le (Nat.le_of_not_lt fY)] at g8
   refine bY.done i bK ao jJ (List.getElem?_eq_none (Nat.le_of_not_lt fY)) e1 A _ _ (pI++R) _ aI D1 fun kC rL hG=>?_
   exact b9.run (gp (B:=B) (n:=n) env ok ρ' ao Q g8) aI (v4 ao R kC (.refl _) hG) fun f rM nd lm nf km z kD=>k f rM nd lm nf ((eI.trans e1).trans km) z kD
 ·exact aL.elim
theorem Dc{x:Nat}{dr:List Nat}{s:Str}{pos' pos:Pos}{iter:Expr}{body:List Stmt}{W:bG}{cO:bh}(h:bI B n sc iter W)(aS:SB B n sc body cO)(hs:nm x=s)(aE:eS sc s=true)(hn:x<d6.length:=by decide)(hf:∀env y,foldedSetIterable iter env y=pure y:=by intro Z Z;rfl):dp B n sc (.For (.Name s pos') iter body [] pos) (dF x dr W cO):=by
 subst hs
 exact Ld h aS hf (fun env ok d v ρ g k aA av=>.wrap (fun Z Z Z Z h=>wpAny_assign_Name h) (.yK ok aE hn aA (eu av).1 (lM (eu av).2))) fun Z Z Z Z Z Z Z Z Z Z k=>wpAny_pure k
noncomputable def tG(dr:List Nat)(T:db)(cO:bh)(j:Nat):aO->(dM->aO->Prop)->Prop:=
 Nat.rec (motive:=fun Z=>aO->(dM->aO->Prop)->Prop) (fun Z Z=>False) (fun Z c9 ρ k=>T ρ fun b aY=>jj b (cO aY fun a8 bW=>match a8 with|.cx=>dO (kl dr bW) (c9 (gb dr bW) k)|.dv v=>k (.dv v) bW) (k .cx aY)) j
noncomputable def qT(dr:List Nat)(T:db)(cO:bh):bh:=fun ρ k=>tG dr T cO 200 ρ k
theorem Km{dr:List Nat}{test:Expr}{body:List Stmt}{pos:Pos}{T:db}{cO:bh}(ht:ST B n sc test T)(aS:SB B n sc body cO):dp B n sc (.While test body [] pos) (qT dr T cO):=fun env ok ρ g Q aL=>by
 refine .of fun A E s R K aI S k=>?_
 refine wpAny_While (codeAny_whileLoop (fun j bP=>∃ρ' ao aC t',bP={s with heap:=aC,toks:=t'}/\Ext g ao/\St B env ao ρ' R aC/\tG dr T cO j ρ' Q) ?_ 200 ⟨ρ,g,s.heap,s.toks,rfl,.refl _,S,aL⟩)
 intro j bP ZQ
 refine g4 fun aiR Le=>?_
 refine h9 ZQ fun ρ' ao aC t' ZR ex S aL=>?_
 subst ZR
 cases j with
 | zero=>exact aL.elim
 | succ j=>
  refine b9.run (.eD (ht env ok ρ' ao _ aL)) aI S fun b aY bQ cn ic eI iv cM=>?_
  cases b with
  | false=>
   refine Le _ _ ?_
   exact b9.run (gp (B:=B) (n:=n) env ok aY bQ Q iv) aI cM fun f rM nd lm nf km z kD=>k f rM nd lm nf ((ex.trans eI).trans km) z kD
  | true=>
   refine Le _ _ ?_
   refine b9.run (aS env ok aY bQ _ iv) aI cM fun f bW cH cz dz eJ cv cC=>?_
   obtain⟨a8,gL,av⟩:=cv
   cases a8 with
   | cx=>
    cases f with
    | next=>exact⟨j,Nat.lt_succ_self _,_,cH,cz,dz,rfl,(ex.trans eI).trans eJ,cC.drop (eu av).1,(eu av).2⟩
    | _=>exact gL.elim
   | dv V=>
    cases f with
    | ret v=>exact k _ bW cH cz dz ((ex.trans eI).trans eJ) ⟨.dv V,gL,av⟩ cC
    | _=>cases V <;> exact gL.elim
end
section
variable {w:World} {B:bC w} {n:Nat} {env:Env} {ρ:aO} {g:G} {sc:List (Str×NameKind)}
theorem IB{scope:Scope}(h:∀x,(x,NameKind.free)∈scope.names->∃ca,env.cells.lookup x=some ca):
  ∃cl,closureFor scope env=pure cl/\(∀x,(x,NameKind.free)∈scope.names->cl.lookup x=env.cells.lookup x)/\(∀x ca,cl.lookup x=some ca->env.cells.lookup x=some ca)/\(∀x ca,cl.lookup x=some ca->(x,NameKind.free)∈scope.names):=by
 have key:∀(names:List (Str×NameKind)) (acc:List (Str×Addr)),(∀x,(x,NameKind.free)∈names->∃ca,env.cells.lookup x=some ca)->(∀x ca,acc.lookup x=some ca->env.cells.lookup x=some ca)->
   ∀f:Str×NameKind->List (Str×Addr)->Sem (ForInStep (List (Str×Addr))),(∀name kind cs,f (name,kind) cs=if kind==.free then (do let a <- cellOf env name;pure (.yield ((name,a)::cs))) else pure (.yield cs))->
   ∃cl,forIn names acc f=(pure cl:Sem _)/\(∀x,(x,NameKind.free)∈names∨acc.lookup x=env.cells.lookup x->cl.lookup x=env.cells.lookup x)/\(∀x ca,cl.lookup x=some ca->env.cells.lookup x=some ca)/\(∀x ca,cl.lookup x=some ca->(x,NameKind.free)∈names∨acc.lookup x=some ca):=by
  intro names
  induction names with
  | nil=>intro acc Z ai f hf;exact tq acc (by rfl) (fun x aE=>by rcases aE with aE|aE;contradiction;exact aE) ai (fun x ca aE=>.inr aE)
  | cons p r c9=>
   obtain⟨name,kind⟩:=p
   intro acc aw ai f hf
   rw[List.forIn_cons,hf]
   by_cases av:(kind==NameKind.free)=true
   ·rw[if_pos av]
    have ez:=eq_of_beq av
    subst ez
    obtain⟨ca,iw⟩:=aw name (.head _)
    have:cellOf env name=pure ca:=by unfold cellOf;rw[iw]
    refine this.symm▸?_
    refine ro (c9 ((name,ca)::acc) (fun x aE=>aw x (.tail _ aE)) (fun x c aE=>by
     rw[List.lookup_cons] at aE
     split at aE
     ·rename_i q;obtain rfl:=Option.some.inj aE;exact(eq_of_beq q).symm▸iw
     ·exact ai x c aE) f hf) fun cl aD ak bz b5=>?_
    refine tq cl aD (fun x aE=>ak x ?_) bz (fun x c aE=>?_)
    rotate_left
    ·rcases b5 x c aE with h|h
     ·exact .inl (.tail _ h)
     ·rw[List.lookup_cons] at h
      split at h
      ·rename_i q;rw[eq_of_beq q];exact .inl (.head _)
      ·exact .inr h
    by_cases q:x=name
    ·subst q;right;rw[List.lookup_cons,beq_self_eq_true,iw]
    ·rcases aE with aE|aE
     ·rcases List.mem_cons.mp aE with e|aE
      ·exact absurd (Prod.mk.inj e).1 q
      ·exact .inl aE
     ·right;rw[List.lookup_cons,beq_eq_false_iff_ne.mpr q];exact aE
   ·rw[if_neg av]
    refine ro (c9 acc (fun x aE=>aw x (.tail _ aE)) ai f hf) fun cl aD ak bz b5=>?_
    refine tq cl aD (fun x aE=>ak x ?_) bz (fun x c aE=>(b5 x c aE).imp (.tail _) id)
    rcases aE with aE|aE
    ·rcases List.mem_cons.mp aE with e|aE
     ·cases e;simp at av
     ·exact .inl aE
    ·exact .inr aE
 have e:closureFor scope env=(forIn scope.names [] (fun(x:Str×NameKind) (cs:List (Str×Addr))=>if x.2==.free then (do let a <- cellOf env x.1;pure (.yield ((x.1,a)::cs))) else pure (.yield cs))>>=fun r=>(pure r:Sem _)):=by
  unfold closureFor
  congr 1
 refine ro (key scope.names [] h (fun x ca aE=>by injection aE) (fun(x:Str×NameKind) (cs:List (Str×Addr))=>if x.2==.free then (do let a <- cellOf env x.1;pure (.yield ((x.1,a)::cs))) else pure (.yield cs)) (fun Z Z Z=>rfl)) fun cl aD ak bz b5=>?_
 refine tq cl ?_ (fun x aE=>ak x (.inl aE)) bz (fun x ca aE=>(b5 x ca aE).resolve_right (by intro h;exact ns h))
 rw[e,aD,pure_bind]
theorem QL{names:List (Str×NameKind)}{x:Str}:(names.map fun(n,k)=>if (k==NameKind.free&&env.scope.kind==.function&&env.kindOf n==some .cell) then (n,NameKind.cell) else (n,k)).lookup x =
  (names.lookup x).map fun k=>if (k==NameKind.free&&env.scope.kind==.function&&env.kindOf x==some .cell) then .cell else k:=by
 induction names with
 | nil=>rfl
 | cons p r c9=>
  obtain⟨y,k⟩:=p
  have e:∀c:Bool,(if c=true then (y,NameKind.cell) else (y,k))=(y,if c=true then NameKind.cell else k):=fun c=>by cases c <;> rfl
  rw[List.map_cons]
  dsimp only
  rw[e,List.lookup_cons,List.lookup_cons]
  by_cases q:x=y
  ·subst q
   rw[beq_self_eq_true];rfl
  ·exact(beq_eq_false_iff_ne.mpr q).symm▸c9
set_option tactic.hygienic true in
theorem bx.pushCells{l:a7}:∀(names:List (Str×NameKind)) (h:Heap) (acc:List (Str×Addr)) (l:a7),bx B g l h->
  ∃cX:a7,bx B g (cX++l) (PySem.pushCells h names)/\(∀q∈cX,q.2.data=.cell none/\h.objs.size<=q.1)/\
   (∀x ca,(cellsFrom h.objs.size names acc).lookup x=some ca->acc.lookup x=some ca∨(∃o,(ca,o)∈cX)/\(x,NameKind.cell)∈names)/\
   (∀x,(x,NameKind.cell)∈names->∃ca o,(cellsFrom h.objs.size names acc).lookup x=some ca/\(ca,o)∈cX)/\
   (∀x,(x,NameKind.cell)∉names->(cellsFrom h.objs.size names acc).lookup x=acc.lookup x)/\
   (∀x ca,acc.lookup x=some ca->(x,NameKind.cell)∉names->(cellsFrom h.objs.size names acc).lookup x=some ca)/\
   ((
    ∀x y ca,acc.lookup x=some ca->acc.lookup y=some ca->x=y)->(∀x ca,acc.lookup x=some ca->ca<h.objs.size)->
    ∀x y ca,(cellsFrom h.objs.size names acc).lookup x=some ca->(cellsFrom h.objs.size names acc).lookup y=some ca->x=y)
 | [],h,acc,l,S=>zJ [] S (fun Z h=>(nomatch h)) (fun x ca aE=>.inl aE) (fun Z h=>(nomatch h)) (fun Z Z=>rfl) (fun Z Z e Z=>e) (fun aw Z=>aw)
 | (name,kind)::r,h,acc,l,S=>by
  unfold PySem.pushCells cellsFrom
  by_cases av:(kind==NameKind.cell)=true
  ·rw[if_pos av]
   refine(if_pos av).symm▸?_
   have ez:=eq_of_beq av
   subst ez
   refine ph (bx.pushCells (l:=l) r (h.push {cls:=.type "cell",data:=.cell none}) ((name,h.objs.size)::acc) _ (S.push {cls:=.type "cell",data:=.cell none})) fun cX aD ak bz b5 dQ gh t8=>?_
   rw[Heap.size_push] at ak bz b5 dQ gh t8
   refine zJ (cX++[(h.objs.size,{cls:=.type "cell",data:=.cell none})]) (by rw[List.append_assoc];exact aD) (fun q aL=>?_) (fun x ca aE=>?_) (fun x aE=>?_) (fun x aE=>?_) (fun x ca aE hn=>?_) (fun aw ai=>?_)
   ·rcases List.mem_append.mp aL with aL|aL
    ·exact⟨(ak q aL).1,Nat.le_of_succ_le (ak q aL).2⟩
    ·exact(List.mem_singleton.mp aL).symm▸(⟨rfl,Nat.le_refl _⟩)
   ·rcases bz x ca aE with aE|⟨⟨o,ho⟩,hm⟩
    ·rw[List.lookup_cons] at aE
     split at aE
     ·rename_i q;obtain rfl:=Option.some.inj aE;right;exact⟨⟨_,by simp;exact .inr rfl⟩,by rw[eq_of_beq q];exact .head _⟩
     ·exact .inl aE
    ·exact .inr ⟨⟨o,by simp[ho]⟩,.tail _ hm⟩
   ·by_cases aA:(x,NameKind.cell)∈r
    ·refine dc (b5 x aA) fun ca o f1 f2=>?_;exact hx ca o f1 (by simp[f2])
    ·rcases List.mem_cons.mp aE with e|aE
     ·cases e
      refine hx h.objs.size _ ?_ (by simp;exact .inr rfl)
      rw[dQ _ aA,List.lookup_cons,beq_self_eq_true]
     ·exact absurd aE aA
   ·have aA:(x,NameKind.cell)∉r:=fun q=>aE (.tail _ q)
    have kn:x≠name:=fun q=>aE (by rw[q];exact .head _)
    rw[dQ _ aA,List.lookup_cons,beq_eq_false_iff_ne.mpr kn]
   ·have kn:x≠name:=fun q=>hn (by rw[q];exact .head _)
    rw[dQ _ (fun q=>hn (.tail _ q)),List.lookup_cons,beq_eq_false_iff_ne.mpr kn];exact aE
   ·refine t8 (fun x y ca aE bj=>?_) fun x ca aE=>?_
    ·rw[List.lookup_cons] at aE bj
     split at aE <;> split at bj
     ·rename_i gA _ cK;refine(eq_of_beq gA).symm▸?_;rw[eq_of_beq cK]
     ·obtain rfl:=Option.some.inj aE;exact absurd (ai _ _ bj) (Nat.lt_irrefl _)
     ·obtain rfl:=Option.some.inj bj;exact absurd (ai _ _ aE) (Nat.lt_irrefl _)
     ·exact aw x y ca aE bj
    ·rw[List.lookup_cons] at aE
     split at aE
     ·obtain rfl:=Option.some.inj aE;exact Nat.lt_succ_self _
     ·exact Nat.lt_succ_of_lt (ai _ _ aE)
  ·rw[if_neg av]
   refine(if_neg av).symm▸?_
   have kn:∀x,(x,NameKind.cell)∈(name,kind)::r->(x,NameKind.cell)∈r:=fun x aE=>by
    rcases List.mem_cons.mp aE with e|aE
    ·cases e;simp at av
    ·exact aE
   refine ph (bx.pushCells (l:=l) r h acc l S) fun cX aD ak bz b5 dQ gh t8=>?_
   exact zJ cX aD ak (fun x ca aE=>(bz x ca aE).imp id fun ZS=>by refine bS ZS fun a b=>?_;exact⟨a,.tail _ b⟩) (fun x aE=>b5 x (kn x aE)) (fun x aE=>dQ x fun q=>aE (.tail _ q)) (fun x ca aE hn=>gh x ca aE fun q=>hn (.tail _ q)) t8
theorem SQ{M:Model}{A:Around}{E:Value->Shared->Prop}{s:Shared}{scope:Scope}{globals:Addr}{closure:List (Str×Addr)}{qual:Str}{func:Option Addr}{code:Value}{around:Option Env}{builtins:Addr}{Q:Env->Shared->Prop}(h:Q (newEnv scope s.heap.objs.size globals (cellsFrom (s.heap.objs.size+1) scope.names closure) qual func code around builtins)
   {s with heap:=PySem.pushCells (s.heap.push {cls:=.type (if around.isSome then "dict" else "frame"),data:=.dict #[]}) scope.names}):
  wpAny M A (newFunctionEnv scope globals closure [] qual func code around builtins) Q E s:=by
 refine wpAny_bind (wpAny_alloc ?_)
 refine wpAny_bind (wpAny_layCells _ (fun name kind cells=>by cases E1:kind==NameKind.cell <;> simp[E1]) _ _ _ _ ?_)
 refine(show ({s with heap:=s.heap.push {cls:=.type (if around.isSome then "dict" else "frame"),data:=.dict #[]}}:Shared).heap.objs.size=s.heap.objs.size+1 from Heap.size_push ..).symm▸?_
 refine wpAny_bind ?_
 skip
 refine wpAny_pure (wpAny_pure ?_)
 cases around <;> exact h
end
section
variable {w:World} {B:bC w} {n:Nat} {env:Env} {ρ:aO} {g:G} {sc:List (Str×NameKind)}
noncomputable def jy(e:Expr)(gens:List Comprehension)(elt:Expr)(k:Nat)(acc:Value)(env:Env):Sem Unit:=match gens[k+1]? with
 | some ao=>do
  let x <- eval ao.iter env
  standAt ao.iter.pos
  let x <- foldedSetIterable ao.iter env x
  let _ <- runOwn (.compStart e (k+1) (<- holding [x] (pyIter x)) acc env) env
 | none=>do let _ <- call (.builtin "list.append") [acc,<- eval elt env]
section
variable {A:Around} {R:Result->Shared->Prop} {s:Shared}
theorem compTurn_gen{elt:Expr}{gens:List Comprehension}{scope:Scope}{pos:Pos}{k:Nat}{x:Str}{e4:Pos}{iter:Expr}{ifs:List Expr}{it acc:Value}(cR:gens[k]?=some ⟨.Name x e4,iter,ifs,0⟩)(h0:∀ao∈gens[k+1]?,ao.is_async=0):compTurn (.ListComp elt gens scope pos) k it acc env=(do
   standAt iter.pos
   match <- pyNext it with
   | none=>pure (.done .next)
   | some v=>
    assign (.Name x e4) env v
    let mut ok:=true
    for c in ifs do
     if ok then ok <- isTrue c env (eval c env)
    if ok then jy (.ListComp elt gens scope pos) gens elt k acc env
    again (.compLoop (.ListComp elt gens scope pos) k it acc env)):=by
 unfold compTurn jy
 simp only[cR]
 cases aw:gens[k+1]? with
 | none=>rfl
 | some ao=>
  have:=h0 ao aw
  have aF:∀it v,letOwnedTupleGo (.Name x e4) it v=pure ():=fun Z Z=>rfl
  simp only[this,bne_self_eq_false,Bool.false_eq_true,if_false,bind_assoc,pure_bind,aF]
  rfl
theorem PJ{elt:Expr}{gens:List Comprehension}{scope:Scope}{pos:Pos}{k:Nat}{x:Str}{e4:Pos}{iter:Expr}{ifs:List Expr}{it acc:Value}(cR:gens[k]?=some ⟨.Name x e4,iter,ifs,0⟩)(h0:∀ao∈gens[k+1]?,ao.is_async=0)(bU:Nat->Shared->Prop)(turn:∀n s,bU n s->wpAny (model bD w) A (pyNext it) (fun r eC=>match r with
   | none=>R (.ok .next) eC
   | some v=>wpAny (model bD w) A (assign (.Name x e4) env v) (fun Z oq=>
     wpAny (model bD w) A (forIn ifs true fun c r=>if r=true then do let ok <- isTrue c env (eval c env);pure (ForInStep.yield ok) else pure (ForInStep.yield r)) (fun ok pK=>
      if ok=true then wpAny (model bD w) A (jy (.ListComp elt gens scope pos) gens elt k acc env) (fun Z O2=>∃m,m<n/\bU m O2) (notedBy (model bD w) A env fun e bP=>R (.error e) bP) pK
      else ∃m,m<n/\bU m pK) (notedBy (model bD w) A env fun e bP=>R (.error e) bP) oq) (notedBy (model bD w) A env fun e bP=>R (.error e) bP) eC) (notedBy (model bD w) A env fun e bP=>R (.error e) bP) s)(n:Nat)(h:bU n s):codeAny (model bD w) A (.compLoop (.ListComp elt gens scope pos) k it acc env) R s:=by
 refine codeAny_loop rfl bU (fun n s ow=>?_) n h
 show wpAny _ A ((compTurn (.ListComp elt gens scope pos) k it acc env).onRaise (fun x=>do noteFrame x env;theTreesLotGoes x)) _ _ s
 refine wpAny_noted ?_
 refine(compTurn_gen cR h0).symm▸?_
 refine wpAny_bind (wpAny_standAt (wpAny_bind (wpAny_mono (turn n s ow) (fun r eC cn=>?_) fun Z Z aC=>aC)))
 cases r with
 | none=>exact wpAny_pure cn
 | some v=>
  refine wpAny_bind (wpAny_mono cn (fun Z oq cz=>wpAny_bind (wpAny_mono cz (fun ok pK jp=>?_) fun Z Z aC=>aC)) fun Z Z aC=>aC)
  cases ok with
  | false=>exact wpAny_pure ⟨rfl,jp⟩
  | true=>exact wpAny_bind (wpAny_mono jp (fun Z O2 pJ=>wpAny_pure ⟨rfl,pJ⟩) fun Z Z aC=>aC)
theorem Gr{elt:Expr}{gens:List Comprehension}{scope:Scope}{pos:Pos}{k:Nat}{F2:Comprehension}{it acc:Value}(cR:gens[k]?=some F2)(h0:F2.is_async=0)(afQ:codeAny (model bD w) A (.compLoop (.ListComp elt gens scope pos) k it acc env) R s)(h:wpAny (model bD w) A (pyIter it) (fun NW bP=>codeAny (model bD w) A (.compLoop (.ListComp elt gens scope pos) k NW acc env) R bP)
   (notedBy (model bD w) A env fun x bP=>R (.error x) bP) s):
  codeAny (model bD w) A (.compStart (.ListComp elt gens scope pos) k it acc env) R s:=by
 refine codeAny_of_tree ?_
 refine wpAny_notedAt ?_
 unfold compStart
 refine cR.symm▸?_
 refine((show ((some F2:Option Comprehension).elim false (·.is_async != 0))=false from by simp[h0])).symm▸?_
 refine wpAny_bind (wpAny_askSetting (wpAny_ite ?_))
 split
 ·exact wpAny_bind (wpAny_pure (wpAny_pure (And.intro rfl afQ)))
 ·refine wpAny_bind (wpAny_rule ?_)
  refine wpAny_bind ?_
  refine wpAny_standAt ?_
  exact wpAny_bind (wpAny_mono h (fun NW bP aC=>wpAny_pure (And.intro rfl aC)) fun Z Z x=>x)
end
end
section
variable {w:World} {B:bC w} {n:Nat} {env bv:Env} {ρ:aO} {g:G} {sc:List (Str×NameKind)} {own:List Nat} {cs:a7} {D:Addr}
noncomputable def k3(b:Bool)(x:Nat)(env:Env)(m:Str->Option Value)(cs:a7)(g:G)(ρ:aO)(ae:List Value):Prop:=match b with
 | true=>dP env m cs g ρ ae/\bT ρ x=none
 | false=>mP x env m cs g ρ ae
noncomputable def MN(bv:Env)(own:List Nat)(cX:a7):Prop:=∀i∈own,bv.kindOf (nm i)=some .cell->∃ca o c,bv.cells.lookup (nm i)=some ca/\(ca,o)∈cX/\o.data=.cell c
noncomputable def fZ(B:bC w)(bv:Env)(own:List Nat)(cs:a7)(D:Addr)(T:(Str->Option Value)->a7->G->aO->List Value->Prop)(g:G)(ρ:aO)(ae ys:List Value)(R:a7)(h:Heap):Prop:=
 ∃m cX ms dC,MN bv own cX/\T m (cX++cs) g ρ ae/\c6 w g ρ ae ms/\cB B bv.locals m g (((cX++cs)++ms)++((D,lst ys dC)::R)) h
theorem Bd{ρ ρ':aO}{x:Nat}(h:du ρ'=du ρ)(e:bT ρ x=none):bT ρ' x=none:=by
 have:=yI (x:=x) h
 replace this:=e▸this
 cases q:bT ρ' x with
 | none=>rfl
 | some V=>replace this:=q▸this;exact sn this
theorem k3.mono{b:Bool}{x:Nat}{m:Str->Option Value}{cs:a7}{g ao:G}{ρ ρ':aO}{ae:List Value}(T:k3 b x env m cs g ρ ae)(e:Ext g ao)(h:du ρ'=du ρ):k3 b x env m cs ao ρ' ae:=by
 cases b
 ·exact mP.mono T e h
 ·exact⟨T.1.mono e h,Bd h T.2⟩
theorem k3.x{b:Bool}{x:Nat}{m:Str->Option Value}{cs:a7}{ae:List Value}(T:k3 b x env m cs g ρ ae):mP x env m cs g ρ ae:=by
 cases b
 ·exact T
 ·exact T.1.x x
theorem dP.adG{b:Bool}{x:Nat}{U:V}{v:Value}{m:Str->Option Value}{cs:a7}{ae:List Value}(T:dP env m cs g ((x,U)::ρ) (v::ae))(aS:b=true->bT ρ x=none)(mm:U.eV=false):k3 b x env m cs g ρ ae:=by
 have bz:∀z,z≠x->dX ((x,U)::ρ) (v::ae) z=dX ρ ae z:=fun z a5=>if_neg a5
 have b5:∀z,z≠x->bT ((x,U)::ρ) z=bT ρ z:=fun z a5=>if_neg a5
 have t9:mP x env m cs g ρ ae:=⟨fun z u a5 de=>T.var z u ((bz z a5).trans de),fun z av a5 bb=>T.own z av (by rw[b5 z a5];exact bb),T.inj,fun z u a5 de=>T.g6 z u ((bz z a5).trans de),T.jH⟩
 cases b with
 | false=>exact t9
 | true=>
  have hn:=aS rfl
  refine⟨⟨fun z u de=>?_,fun z av bb=>?_,T.inj,fun z u de=>?_,T.jH⟩,hn⟩
  ·by_cases a5:z=x
   ·subst a5;rw[yj hn] at de;injection de
   ·exact t9.var z u a5 de
  ·by_cases a5:z=x
   ·subst a5;exact T.own z av (by rw[show bT ((z,U)::ρ) z=some U from if_pos rfl];simp[mm])
   ·exact t9.own z av a5 bb
  ·by_cases a5:z=x
   ·subst a5;rw[yj hn] at de;injection de
   ·exact t9.g6 z u a5 de
theorem fZ.run{α:Type}{t:Sem α}{Q:α->aO->G->Prop}{ae ys:List Value}(h:b1 B n bv t ρ g Q){A:Around}{E:Value->Shared->Prop}{s:Shared}{R:a7}{K:α->Shared->Prop}(aI:dk n A)(S:fZ B bv own cs D (dP bv) g ρ ae ys R s.heap)(k:∀v ρ' ao aC t',Ext g ao->du ρ'=du ρ->Q v ρ' ao->fZ B bv own cs D (dP bv) ao ρ' ae ys R aC->K v {s with heap:=aC,toks:=t'}):wpAny (model bD w) A t K E s:=by
 refine h9 S fun m cX ms dC ho T bu F=>?_
 exact h m (cX++cs) ae ms T bu A E s _ K aI F fun v b3 ao ms' aC t' cv cI=>by
  obtain⟨e,ex,ρ',cr,cb,ak,d1,q⟩:=cv
  subst e ak
  exact k v ρ' ao aC t' ex cb q ⟨m,cX,cr,dC,ho,T.mono ex cb,d1,cI⟩
theorem fZ.bind{b:Bool}{x:Nat}{d:Nz.Internal.D}{v:Value}{ae ys:List Value}{names:List (Str×NameKind)}(ok:cS names bv)(aE:eS names (nm x)=true)(aS:x<d6.length)(mQ:x∈own)(aA:Rep w g d v){A:Around}{E:Value->Shared->Prop}{s:Shared}{R:a7}{K:Unit->Shared->Prop}(aI:dk n A)(S:fZ B bv own cs D (k3 b x bv) g ρ ae ys R s.heap)(k:∀aC t',fZ B bv own cs D (dP bv) g ((x,.aX d)::ρ) (v::ae) ys R aC->K () {s with heap:=aC,toks:=t'}):wpAny (model bD w) A (storeName bv (nm x) v) K E s:=by
 refine h9 S fun m cX ms dC ho T bu F=>?_
 have aD:c6 w g ((x,.aX d)::ρ) (v::ae) ms:=hy v ae [] ms rfl rfl ⟨rfl,aA⟩ bu
 have:=da.CB (B:=B) (n:=n) (V:=.aX d) (v:=v) (b2:=[]) (l:=[]) ok aE aS T.x (ho x mQ) aD (.refl _) (fun y=>rfl) (fun y=>rfl)
 rw[List.append_nil] at this
 exact this A E s _ K aI F fun Z b3 ao ms' aC t' cv cI=>by
  refine cps fun ed bR=>?_
  obtain⟨e,n1,hb,ak,keep⟩:=cv
  subst e ak
  refine bR ?_
  clear bR
  refine k aC t' ⟨b3,n1,ms,dC,fun i aN av=>?_,hb,aD,cI⟩
  refine hN (ho i aN av) fun ca o c f1 f2 dL=>?_
  refine dc (keep ca ⟨o,c,f2,dL⟩) fun bK cV f4 fl=>?_
  exact ji ca bK cV f1 f4 fl
theorem fZ.pop{b:Bool}{x:Nat}{U:V}{v:Value}{ae ys:List Value}{R:a7}{h:Heap}(S:fZ B bv own cs D (dP bv) g ((x,U)::ρ) (v::ae) ys R h)(aS:b=true->bT ρ x=none)(mm:U.eV=false):
  fZ B bv own cs D (k3 b x bv) g ρ ae ys R h:=by
 refine h9 S fun m cX ms dC ho T Dd F=>?_
 refine h9 Dd fun kB r m₁ m₂ aD ak bz b5=>?_
 cases aD
 subst ak
 refine hy m cX m₂ dC ho (T.adG aS mm) b5 ?_
 have p:(((cX++cs)++m₂)++((D,lst ys dC)::R)).Sublist (((cX++cs)++(m₁++m₂))++((D,lst ys dC)::R)):=(((List.sublist_append_right m₁ m₂).append_left _).append_right _)
 exact⟨F.cb.sub p,F.ns,F.pG,fun q aL=>F.ot q (p.subset aL)⟩
theorem fZ.lN{T:(Str->Option Value)->a7->G->aO->List Value->Prop}{ae ys:List Value}{R:a7}{h:Heap}(S:fZ B bv own cs D T g ρ ae ys R h)(eX:∀m cs g ao ρ ae,Ext g ao->T m cs g ρ ae->T m cs ao ρ ae):
  ∃l,bx B g (l++R) h/\∀(ao:G) jU aC,Ext g ao->bx B ao (l++jU) aC->fZ B bv own cs D T ao ρ ae ys jU aC:=by
 refine h9 S fun m cX ms dC ho T bu F=>?_
 refine aW F.open fun o S c=>?_
 refine⟨(bv.locals,o)::(((cX++cs)++ms)++[(D,lst ys dC)]),by simpa using S,fun ao jU aC ex bZ=>hy m cX ms dC ho (eX _ _ _ _ _ _ ex T) (bu.mono ex) ?_⟩
 have hQ:bx B ao ((bv.locals,o)::(((cX++cs)++ms)++((D,lst ys dC)::jU))) aC:=by simpa using bZ
 exact cB.close hQ (c _ (hQ.own (bv.locals,o) (.head _)))
theorem fZ.append{T:(Str->Option Value)->a7->G->aO->List Value->Prop}{ae ys:List Value}{y:Value}(hs:xJ ys.length){A:Around}{E:Value->Shared->Prop}{s:Shared}{R:a7}{K:Value->Shared->Prop}(S:fZ B bv own cs D T g ρ ae ys R s.heap)(k:∀v aC t',fZ B bv own cs D T g ρ ae (ys++[y]) R aC->K v {s with heap:=aC,toks:=t'}):wpAny (model bD w) A (call (.builtin "list.append") [.ref D,y]) K E s:=by
 refine cps fun ed bR=>?_
 refine h9 S fun m cX ms dC ho T bu F=>?_
 refine aW F.open fun o S c=>?_
 refine bR ?_
 clear bR
 have cM:bx B g ((D,lst ys dC)::((bv.locals,o)::(((cX++cs)++ms)++R))) s.heap:=S.perm (by
  rw[<- List.cons_append]
  exact List.perm_middle)
 refine wpAny_list_append_plain (items:=ys.toArray) ⟨dC,cM.own (D,_) (.head _)⟩ (fun aC aF gd=>?_) (by exact h2 hs)
 refine cQ aF fun k' ez=>?_
 rw[(show ({cls:=.type "list",data:=.seq (ys.toArray.push y) k'}:Obj)=lst (ys++[y]) k' from by simp[lst])] at ez
 have cC:=(cM.update gd ez).perm (l':=(bv.locals,o)::(((cX++cs)++ms)++((D,lst (ys++[y]) k')::R))) (by
  rw[<- List.cons_append]
  exact List.perm_middle.symm)
 exact k _ aC s.toks ⟨m,cX,ms,k',ho,T,bu,cB.close cC (c _ (cC.own (bv.locals,o) (.head _)))⟩
noncomputable abbrev iz:=List Nz.Internal.D->aO->(List Nz.Internal.D->aO->Prop)->Prop
noncomputable def fJ(x:Nat)(T:db)(S:iz)(ds:List Nz.Internal.D):iz:=
 List.rec (motive:=fun Z=>iz) (fun acc ρ k=>k acc ρ) (fun d Z c9 acc ρ k=>T ((x,.aX d)::ρ) fun b aY=>jj b (S acc aY fun fK bW=>c9 fK bW.tail k) (c9 acc aY.tail k)) ds
noncomputable def cy(f8:bG):iz:=fun acc ρ k=>dO (pp acc.length) (f8 ρ fun e ρ'=>k (acc++[e]) ρ')
noncomputable def o6(y:Nat)(eh:bG)(T:db)(S:iz):iz:=fun acc ρ k=>dO (bT ρ y).isNone <| eh ρ fun d aY=>match vN d with | some ds=>fJ y T S ds acc aY k | none=>False
noncomputable def kV(B:bC w)(n:Nat)(bv:Env)(own:List Nat)(cs:a7)(D:Addr)(t:Sem Unit)(S:iz):Prop:=
 ∀acc ρ ae g ys R h7 (A:Around) (E:Value->Shared->Prop) (s:Shared) (K:Unit->Shared->Prop),dk n A->S acc ρ h7->fZ B bv own cs D (dP bv) g ρ ae ys R s.heap->bE w g acc ys->
  (∀fK ρ' ao gv aC t',h7 fK ρ'->du ρ'=du ρ->Ext g ao->fZ B bv own cs D (dP bv) ao ρ' ae gv R aC->bE w ao fK gv->K () {s with heap:=aC,toks:=t'})->wpAny (model bD w) A t K E s
theorem bE.snoc{g:G}:∀{ds:List Nz.Internal.D} {ae:List Value} {d:Nz.Internal.D} {v:Value},bE w g ds ae->Rep w g d v->bE w g (ds++[d]) (ae++[v]):=by
 intro es
 induction es with
 | nil=>
  intro Z d v h hd
  subst h;exact dW v [] rfl hd (by rfl)
 | cons e ds eo=>
  intro Z d v h hd
  refine c0 h fun u r ZT aw ai=>?_
  subst ZT
  exact dW u (r++[v]) rfl aw (eo ai hd)
theorem JB{x:Nat}{V:V}{ρ ρ':aO}(h:du ρ'=du ((x,V)::ρ)):∃U bW,ρ'=(x,U)::bW/\U.eV=V.eV/\du bW=du ρ:=by
 cases ρ' with
 | nil=>simp[du] at h
 | cons p r=>
  obtain⟨y,U⟩:=p
  simp only[du,List.map_cons,List.cons.injEq,Prod.mk.injEq] at h
  obtain⟨⟨rfl,e⟩,ak⟩:=h
  exact dW U r rfl e ak
section
variable {elt:Expr} {gens:List Comprehension} {scope:Scope} {pos:Pos}
theorem sd{f8:bG}{k:Nat}(ok:cS scope.names bv)(he:bI B n scope.names elt f8)(av:gens[k+1]?=none):kV B n bv own cs D (jy (.ListComp elt gens scope pos) gens elt k (.ref D) bv) (cy f8):=by
 intro acc ρ ae g ys R h7 A E s K aI ei S aA b0
 unfold jy
 rw[av]
 refine bS (m1 ei) fun hs ei=>?_
 refine wpAny_bind (fZ.run (he bv ok ρ g _ ei) aI S fun v ρ' ao aC t' ex cb cv bZ=>?_)
 refine aW cv fun d hd ez=>?_
 refine wpAny_bind (bZ.append (y:=v) (by rw[aA.length];exact hs) fun Z gw iM hQ=>wpAny_pure ?_)
 exact b0 _ ρ' ao _ gw iM ez cb ex hQ ((aA.mono ex).snoc hd)
theorem UB{T:db}{ifs:List Expr}(ok:cS scope.names bv)(eX:(ifs=[]/\T=cg)∨∃c,ifs=[c]/\ST B n scope.names c T){ae ys:List Value}{Q:Bool->aO->Prop}(aL:T ρ Q){A:Around}{E:Value->Shared->Prop}{s:Shared}{R:a7}{K:Bool->Shared->Prop}(aI:dk n A)(S:fZ B bv own cs D (dP bv) g ρ ae ys R s.heap)(k:∀v ρ' ao aC t',Ext g ao->du ρ'=du ρ->Q v ρ'->fZ B bv own cs D (dP bv) ao ρ' ae ys R aC->K v {s with heap:=aC,toks:=t'}):
  wpAny (model bD w) A (forIn ifs true fun c r=>if r=true then do let ok <- isTrue c bv (eval c bv);pure (ForInStep.yield ok) else pure (ForInStep.yield r)) K E s:=by
 rcases eX with⟨rfl,rfl⟩|⟨c,rfl,bb⟩
 ·exact wpAny_tests_nil (k true ρ g s.heap s.toks (.refl g) rfl aL S)
 ·exact wpAny_tests_one (fZ.run (bb bv ok ρ g _ aL) aI S k)
theorem I6{b:Bool}{x:Nat}{e4:Pos}{bP:Str}{iter:Expr}{ifs:List Expr}{k:Nat}{T:db}{S:iz}(ok:cS scope.names bv)(hs:nm x=bP)(cR:gens[k]?=some ⟨.Name bP e4,iter,ifs,0⟩)(h0:∀ao∈gens[k+1]?,ao.is_async=0)(aE:eS scope.names (nm x)=true)(aS:x<d6.length)(mQ:x∈own)(eX:(ifs=[]/\T=cg)∨∃c,ifs=[c]/\ST B n scope.names c T)(jZ:kV B n bv own cs D (jy (.ListComp elt gens scope pos) gens elt k (.ref D) bv) S){bU:Addr}{ds:List Nz.Internal.D}{o:Obj}{eZ:Nat->Obj->Prop}{acc:List Nz.Internal.D}{ρ:aO}{ae ys:List Value}{R:a7}{h7:List Nz.Internal.D->aO->Prop}{A:Around}{s:Shared}{RR:Result->Shared->Prop}(aI:dk n A)(eB:eZ 0 o)(bY:rv B n bU ds g eZ)(ei:fJ x T S ds acc ρ h7)(afR:b=true->bT ρ x=none)(C:fZ B bv own cs D (k3 b x bv) g ρ ae ys ((bU,o)::R) s.heap)(aA:bE w g acc ys)(fin:∀fK ρ' ao gv aC t',h7 fK ρ'->du ρ'=du ρ->Ext g ao->fZ B bv own cs D (k3 b x bv) ao ρ' ae gv R aC->bE w ao fK gv->RR (.ok .next) {s with heap:=aC,toks:=t'}):
  codeAny (model bD w) A (.compLoop (.ListComp elt gens scope pos) k (.ref bU) (.ref D) bv) RR s:=by
 refine PJ cR h0 (fun j eC=>∃i bK fK ρ' ao gv aC t',eC={s with heap:=aC,toks:=t'}/\j=ds.length+1 - i/\i<=ds.length/\eZ i bK/\Ext g ao/\du ρ'=du ρ/\bE w ao fK gv/\
   fZ B bv own cs D (k3 b x bv) ao ρ' ae gv ((bU,bK)::R) aC/\fJ x T S (ds.drop i) fK ρ' h7) ?_ (ds.length+1)
  ⟨0,o,acc,ρ,g,ys,s.heap,s.toks,rfl,rfl,Nat.zero_le _,eB,.refl _,rfl,aA,C,by simpa using ei⟩
 intro j eC ZU
 refine afj ZU fun i bK fK ρ' ao gv aC t' C9 ZV aN jJ ex cb m3 Ai zT=>?_
 subst C9
 subst ZV
 refine g4 fun aiZ L3=>?_
 refine aW (Ai.lN (fun Z Z Z Z Z Z e T=>T.mono e rfl)) fun l E2 back=>?_
 have MO:=E2.perm (nK l (bU,bK) R)
 by_cases fY:i<ds.length
 ·have fj:ds[i]?=some ds[i]:=by simp[fY]
  rw[List.drop_eq_getElem_cons fY] at zT
  refine bY.item i bK ds[i] ao jJ fj ex A _ _ (l++R) _ aI MO fun v hB kC rL aP rd hG=>?_
  subst hs
  refine L3 _ _ ?_
  refine wpAny_assign_Name ((back ao ((bU,hB)::R) kC (.refl _) (hG.perm (nK l (bU,hB) R).symm)).bind (n:=n) ok aE aS mQ aP aI fun pJ O1 ahP=>?_)
  refine g4 fun ai0 L4=>?_
  refine UB ok eX zT aI ahP fun ahQ rM nd lm nf km NX zU O3=>?_
  have MP:∀bW,du bW=du ρ'->b=true->bT bW x=none:=fun bW e tE=>Bd (e.trans cb) (afR tE)
  cases ahQ with
  | false=>
   simp only[Bool.false_eq_true,if_false] at zU ⊢
   refine cps fun ed bR=>?_
   refine c0 (JB NX) fun U bW ZW mm ko=>?_
   subst ZW
   refine bR ?_
   clear bR
   refine L4 _ _ ?_
   exact i12 (ds.length+1 - (i+1)) (by lia) ⟨i+1,hB,fK,bW,nd,gv,lm,nf,rfl,rfl,fY,rd,ex.trans km,ko.trans cb,m3.mono km,O3.pop (MP bW ko) (mm.trans rfl),zU⟩
  | true=>
   simp only[if_true] at zU ⊢
   refine L4 _ _ ?_
   refine jZ _ _ _ _ _ _ _ A _ _ _ aI zU O3 (m3.mono km) fun adH aj2 ahR afS Aj ahS afT afU zS ahT afV=>?_
   refine c0 (JB (afU.trans NX)) fun U bW ZX mm ko=>?_
   subst ZX
   exact i12 (ds.length+1 - (i+1)) (by lia) ⟨i+1,hB,adH,bW,ahR,afS,Aj,ahS,rfl,rfl,fY,rd,(ex.trans km).trans zS,ko.trans cb,afV,ahT.pop (MP bW ko) (mm.trans rfl),afT⟩
 ·have ZY:ds[i]?=none:=by simp;lia
  rw[List.drop_of_length_le (by lia)] at zT
  refine bY.done i bK ao jJ ZY ex A _ _ (l++R) _ aI MO fun kC rL hG=>?_
  refine L3 _ _ ?_
  exact fin fK ρ' ao gv kC rL zT cb ex (back ao R kC (.refl _) hG) m3
theorem BJ{y:Nat}{py:Pos}{bP:Str}{iter:Expr}{ifs:List Expr}{k:Nat}{eh:bG}{T:db}{S:iz}(ok:cS scope.names bv)(hs:nm y=bP)(cR:gens[k+1]?=some ⟨.Name bP py,iter,ifs,0⟩)(h0:∀ao∈gens[k+2]?,ao.is_async=0)(aE:eS scope.names (nm y)=true)(aS:y<d6.length)(mQ:y∈own)(aN:bI B n scope.names iter eh)(eX:(ifs=[]/\T=cg)∨∃c,ifs=[c]/\ST B n scope.names c T)(jZ:kV B n bv own cs D (jy (.ListComp elt gens scope pos) gens elt (k+1) (.ref D) bv) S)(hf:∀v,foldedSetIterable iter bv v=pure v):
  kV B n bv own cs D (jy (.ListComp elt gens scope pos) gens elt k (.ref D) bv) (o6 y eh T S):=by
 intro acc ρ ae g ys R h7 A E s K aI ei C aA b0
 unfold jy
 refine cR.symm▸?_
 refine bS (eu ei) fun hn ei=>?_
 replace hn:=Option.isNone_iff_eq_none.mp hn
 refine wpAny_bind (fZ.run (aN bv ok ρ g _ ei) aI C fun v aY bQ cn ic eI pt ZZ F3=>aW ZZ fun d hd oc=>wpAny_bind (wpAny_standAt (wpAny_bind (wpAny_of_eq (hf v) (wpAny_bind (wpAny_holding ?_))))))
 split at oc
 ·rename_i ds cJ
  refine g4 fun ai1 Z0=>?_
  refine aW (F3.lN (fun Z Z Z Z Z Z e T=>T.mono e rfl)) fun l E2 back=>?_
  refine yk (n:=n) cJ hd A _ _ (l++R) _ aI E2 fun bU o eZ cz dz eB bY cC=>?_
  have zV:=Bd pt hn
  refine h9 (back bQ ((bU,o)::R) cz (.refl _) (cC.perm (nK l (bU,o) R).symm)) fun m cX ms dC a1 a2 jT pE=>?_
  refine Z0 _ _ ?_
  refine wpAny_bind (wpAny_runOwn ?_)
  have loop:∀RR:Result->Shared->Prop,(∀fK ρ' ao gv aC t',h7 fK ρ'->du ρ'=du aY->Ext bQ ao->fZ B bv own cs D (k3 true y bv) ao ρ' ae gv R aC->bE w ao fK gv->RR (.ok .next) {s with heap:=aC,toks:=t'})->
    codeAny (model bD w) A (.compLoop (.ListComp elt gens scope pos) (k+1) (.ref bU) (.ref D) bv) RR {s with heap:=cz,toks:=dz}:=fun RR E3=>
   I6 (b:=true) (S:=S) (s:={s with heap:=cz,toks:=dz}) ok hs cR h0 aE aS mQ eX jZ aI eB bY oc (fun Z=>zV) (hy m cX ms dC a1 ⟨a2,zV⟩ jT pE) (aA.mono eI) E3
  have fin:∀RR:Result->Shared->Prop,(∀bP,wpAny (model bD w) A (pure ()) K E bP->RR (.ok .next) bP)->codeAny (model bD w) A (.compLoop (.ListComp elt gens scope pos) (k+1) (.ref bU) (.ref D) bv) RR {s with heap:=cz,toks:=dz}:=fun RR E3=>
   loop RR fun fK ρ' ao gv aC t' av cb ex C m3=>E3 _ (wpAny_pure (b0 fK ρ' ao gv aC t' av (cb.trans pt) (eI.trans ex) (let ⟨m,cX,ms,dC,a1,a2,jT,pE⟩:=C;hy m cX ms dC a1 a2.1 jT pE) m3))
  refine Gr cR rfl (fin _ fun bP h=>h) ?_
  refine bY.self 0 o bQ eB (.refl _) A _ _ (l++R) _ aI cC (fin _ fun bP h=>h)
 ·exact oc.elim
end
end
section
variable {w:World} {B:bC w} {n:Nat} {env:Env} {ρ:aO} {g:G} {sc:List (Str×NameKind)}
noncomputable def sw(sc:List (Str×NameKind))(scope:Scope)(own:List Nat):Bool:=
 scope.kind==.function&&(codeOf scope.names).isNone&&(scope.names.all fun p=>scope.names.lookup p.1==some p.2&&(match p.2 with
  | .local=>p.1==(".0":Str)||own.any (fun i=>nm i==p.1)
  | .cell=>own.any (fun i=>nm i==p.1)
  | .free=>sc.lookup p.1==some .cell||sc.lookup p.1==some .free
  | .globalImplicit=>true
  | .globalExplicit=>false))&&own.all fun i=>decide (i<d6.length)&&eS scope.names (nm i)
theorem WX:∀x<d6.length,nm x≠(".0":Str):=by decide +kernel
theorem mem_lookup{names:List (Str×NameKind)}{x:Str}{k:NameKind}(h:names.lookup x=some k):(x,k)∈names:=mem_of_lookup h
structure vO(sc:List (Str×NameKind))(scope:Scope)(own:List Nat):Prop where
 fn:scope.kind=.function
 pn:codeOf scope.names=none
 uniq:∀x k,(x,k)∈scope.names->scope.names.lookup x=some k
 loc:∀z,z<d6.length->scope.names.lookup (nm z)=some .local->z∈own
 jI:∀x,scope.names.lookup x=some .cell->∃z∈own,nm z=x
 ob:∀x,scope.names.lookup x=some .free->sc.lookup x=some .cell∨sc.lookup x=some .free
 own:∀z∈own,z<d6.length/\eS scope.names (nm z)=true
theorem vO.of{scope:Scope}{own:List Nat}(h:sw sc scope own=true):vO sc scope own:=by
 unfold sw at h
 simp only[Bool.and_eq_true,List.all_eq_true,beq_iff_eq,decide_eq_true_eq,Option.isNone_iff_eq_none] at h
 obtain⟨⟨⟨aw,h0⟩,ai⟩,a3⟩:=h
 refine⟨aw,h0,fun x k aE=>(ai _ aE).1,fun z a5 aF=>?_,fun x aF=>?_,fun x aF=>?_,fun z a5=>a3 z a5⟩
 ·have:=(ai _ (mem_lookup aF)).2
  simp only[Bool.or_eq_true,beq_iff_eq,List.any_eq_true] at this
  rcases this with e|⟨i,aN,e⟩
  ·exact absurd e (WX z a5)
  ·rwa [<- sv (a3 i aN).1 a5 e]
 ·have:=(ai _ (mem_lookup aF)).2
  simp only[beq_iff_eq,List.any_eq_true] at this
  exact this
 ·have:=(ai _ (mem_lookup aF)).2
  simpa using this
noncomputable def vy(scope:Scope)(env:Env)(C:Addr)(cl:List (Str×Addr)):Env:={newEnv scope C env.globals (cellsFrom (C+1) scope.names cl) env.qual none .none (some env) builtinsNs with scope:=relabel scope env}
theorem Tp{scope:Scope}{own:List Nat}{C:Addr}{cl:List (Str×Addr)}{h:Heap}{cX:a7}(K:vO sc scope own)(ok:cS sc env)(jK:∀x,(x,NameKind.free)∈scope.names->cl.lookup x=env.cells.lookup x)(bn:∀x,(x,NameKind.cell)∈scope.names->∃ca o,(cellsFrom (C+1) scope.names cl).lookup x=some ca/\(ca,o)∈cX)(bN:∀x,(x,NameKind.cell)∉scope.names->(cellsFrom (C+1) scope.names cl).lookup x=cl.lookup x):
  cS scope.names (vy scope env C cl)/\(∀x,(vy scope env C cl).kindOf x=(scope.names.lookup x).map fun k=>if (k==NameKind.free&&env.scope.kind==.function&&env.kindOf x==some .cell) then .cell else k):=by
 have kind:∀x,(vy scope env C cl).kindOf x=(scope.names.lookup x).map fun k=>if (k==NameKind.free&&env.scope.kind==.function&&env.kindOf x==some .cell) then .cell else k:=fun x=>QL
 refine⟨⟨K.fn,ok.gl,ok.OZ,fun x aE=>?_,fun x aE=>?_,fun x aE=>?_,fun x aE=>?_,fun x aE=>?_,fun c bb=>by replace bb:=K.pn▸bb;cases bb⟩,kind⟩
 ·rw[kind,aE];rfl
 ·rw[kind,aE];rfl
 ·rw[kind,aE,Option.map_some]
  split
  ·exact .inl rfl
  ·exact .inr rfl
 ·rw[kind,aE];rfl
 ·rw[kind] at aE
  cases e:scope.names.lookup x with
  | none=>rw[e] at aE;simp at aE
  | some k=>
   have hm:=mem_lookup e
   show ∃ca,(cellsFrom (C+1) scope.names cl).lookup x=some ca
   cases k with
   | cell=>refine dc (bn x hm) fun ca o f Z=>?_;exact⟨ca,f⟩
   | free=>
    have hn:(x,NameKind.cell)∉scope.names:=fun q=>by have:=K.uniq x .cell q;replace this:=e▸this;contradiction
    refine(bN x hn).symm▸(jK x hm).symm▸?_
    rcases K.ob x e with q|q
    ·exact ok.wZ x (.inl (ok.jI x q))
    ·exact ok.wZ x (ok.ob x q)
   | «local»=>rw[e] at aE;simp at aE
   | globalExplicit=>rw[e] at aE;simp at aE
   | globalImplicit=>rw[e] at aE;simp at aE
theorem Heap.y6{o:Obj}{h aC:Heap}{a:Addr}{m:Str->Option Value}(hn:h.Ns a m)(e:h.get? a=some o)(eA:aC.get? a=some o):aC.Ns a m:=by
 refine iJ hn fun bK bw ep aD r=>?_
 replace aD:=e▸aD;obtain rfl:=Option.some.inj aD
 exact tv o bw ep eA r
section
variable {elt:Expr} {scope:Scope} {pos:Pos} {own:List Nat} {x:Nat} {T:db} {S:iz} {bP:Str} {e4:Pos} {iter:Expr} {ifs:List Expr} {rest:List Comprehension}
theorem T0(K:vO sc scope own)(ok:cS sc env)(hs:nm x=bP)(h0:∀ao∈rest[0]?,ao.is_async=0)(mQ:x∈own)(sJ:∀y∈own,y≠x->bT ρ y=none)(eX:(ifs=[]/\T=cg)∨∃c,ifs=[c]/\ST B n scope.names c T)(jZ:∀bv cs D,cS scope.names bv->kV B n bv own cs D (jy (.ListComp elt (⟨.Name bP e4,iter,ifs,0⟩::rest) scope pos) (⟨.Name bP e4,iter,ifs,0⟩::rest) elt 0 (.ref D) bv) S){cl:List (Str×Addr)}(jK:∀x,(x,NameKind.free)∈scope.names->cl.lookup x=env.cells.lookup x)(zm:∀x ca,cl.lookup x=some ca->env.cells.lookup x=some ca){m:Str->Option Value}{cs ms R:a7}{ae:List Value}{A:Around}{E:Value->Shared->Prop}{s:Shared}{bU:Addr}{o:Obj}{eZ:Nat->Obj->Prop}{ds:List D}{h7:List D->aO->Prop}{RR:Value->Addr->Result->Shared->Prop}(aI:dk n A)(j0:dP env m cs g ρ ae)(bu:c6 w g ρ ae ms)(F:cB B env.locals m g ((cs++ms)++((bU,o)::R)) s.heap)(eB:eZ 0 o)(bY:rv B n bU ds g eZ)(ei:fJ x T S ds [] ρ h7)(fin:∀D C fK ρ' ao ys dC fe ng ms' aC t',h7 fK ρ'->du ρ'=du ρ->Ext g ao->cB B env.locals m ao ((cs++ms')++((C,fe)::(D,lst ys dC)::R)) aC->aC.Ns C ng->c6 w ao ρ' ae ms'->bE w ao fK ys->RR (.ref D) C (.ok .next) {s with heap:=aC,toks:=t'}):
  wpAny (model bD w) A (newList []) (fun acc pK=>wpAny (model bD w) A (newFunctionEnv scope env.globals cl [] env.qual none .none (some env)) (fun bv ahU=>
   codeAny (model bD w) A (.compStart (.ListComp elt (⟨.Name bP e4,iter,ifs,0⟩::rest) scope pos) 0 (.ref bU) acc {bv with scope:=relabel scope env}) (RR acc bv.locals) ahU) E pK) E s:=by
 have fY:∀x ca,env.cells.lookup x=some ca->ca<s.heap.objs.size:=fun x ca aE=>by
  rcases j0.jH x ca aE with⟨bK,c,aw,_⟩|⟨P,dj⟩
  ·exact Heap.lt_size (F.cb.own (ca,bK) (by simp[aw]))
  ·exact F.cb.lt dj
 refine wpAny_newObj_type (SQ ?_)
 dsimp only
 refine aW F.open fun cm ahV ua=>?_
 have cC:=(ahV.push (lst [])).push {cls:=.type "dict",data:=.dict #[]}
 have afW:((s.heap.push (lst [])).push {cls:=.type "dict",data:=.dict #[]}).Ns (s.heap.push (lst [])).objs.size (fun Z=>none):=Heap.Ns.new (s.heap.push (lst [])) (.type "dict")
 have aD:((s.heap.push (lst [])).push {cls:=.type "dict",data:=.dict #[]}).objs.size=(s.heap.push (lst [])).objs.size+1:=Heap.size_push ..
 have ak:(s.heap.push (lst [])).objs.size=s.heap.objs.size+1:=Heap.size_push ..
 show codeAny (model bD w) A (.compStart (.ListComp elt (⟨.Name bP e4,iter,ifs,0⟩::rest) scope pos) 0 (.ref bU) (.ref s.heap.objs.size) (vy scope env (s.heap.push (lst [])).objs.size cl)) (RR (.ref s.heap.objs.size) (s.heap.push (lst [])).objs.size)
  {s with heap:=PySem.pushCells ((s.heap.push (lst [])).push {cls:=.type "dict",data:=.dict #[]}) scope.names}
 generalize (s.heap.push (lst [])).push {cls:=.type "dict",data:=.dict #[]}=P at *
 refine ph (bx.pushCells (l:=[]) (B:=B) (g:=g) scope.names P cl _ cC) fun cX dq fw j1 gi i4 kE i5=>?_
 rw[aD] at fw j1 gi i4 kE i5
 have afX:(PySem.pushCells P scope.names).Ns (s.heap.push (lst [])).objs.size (fun Z=>none):=afW.keeps (pushCells_keeps _ _)
 generalize (s.heap.push (lst [])).objs.size=C at *
 generalize PySem.pushCells P scope.names=H at *
 generalize kF:s.heap.objs.size=D at *
 refine bS (Tp (C:=C) (h:=H) (cX:=cX) K ok jK gi i4) fun NY kind=>?_
 generalize dw:vy scope env C cl=bv at *
 have fz:bv.cells=cellsFrom (C+1) scope.names cl:=by exact congrArg _ dw.symm
 have wl:bv.locals=C:=by exact congrArg _ dw.symm
 have Lf:∀z,z<d6.length->z∉own->(nm z,NameKind.cell)∉scope.names:=fun z a5 ho q=>by
  refine aW (K.jI _ (K.uniq _ _ q)) fun i aN e=>?_
  exact ho (sv (K.own i aN).1 a5 e▸aN)
 have t9:mP x bv (fun Z=>none) (cX++cs) g ρ ae:=by
  have lt:=j0.g6
  have WY:∀z v,z≠x->dX ρ ae z=some v->z∉own:=fun z v a5 aP ho=>by replace aP:=(yj (sJ z ho a5))▸aP;exact ns aP
  refine⟨fun z v a5 aP=>?_,fun z av a5 bb=>?_,fun a b ca bp aS=>?_,fun z v Z aP=>lt z v aP,fun z ca a5=>?_⟩
  ·have pv:=WY z v a5 aP
   have rx:=lt z v aP
   have old:=j0.var z v aP
   unfold fR at old ⊢
   rw[kind]
   cases e:scope.names.lookup (nm z) with
   | none=>trivial
   | some k=>
    have hm:=mem_lookup e
    have fin:(∃ca,env.cells.lookup (nm z)=some ca/\((∃o,(ca,o)∈cs/\o.data=.cell (some v))∨g ca=some (iQ v)))->k=.free->
      ∃ca,bv.cells.lookup (nm z)=some ca/\((∃o,(ca,o)∈cX++cs/\o.data=.cell (some v))∨g ca=some (iQ v)):=fun cv av=>by
     refine aW cv fun ca f1 f2=>?_
     subst av
     refine⟨ca,?_,f2.imp (fun Z1=>by refine aW Z1 fun o a b=>?_;exact⟨o,List.mem_append_right _ a,b⟩) id⟩
     rw[fz,i4 _ (Lf z rx pv),jK _ hm,f1]
    cases k with
    | «local»=>exact absurd (K.loc z rx e) pv
    | cell=>exact absurd hm (Lf z rx pv)
    | globalExplicit=>trivial
    | globalImplicit=>trivial
    | free=>
     have adI:∃ca,env.cells.lookup (nm z)=some ca/\((∃o,(ca,o)∈cs/\o.data=.cell (some v))∨g ca=some (iQ v)):=by
      have:env.kindOf (nm z)=some .cell∨env.kindOf (nm z)=some .free:=by
       rcases K.ob _ e with q|q
       ·exact .inl (ok.jI _ q)
       ·exact ok.ob _ q
      rcases this with q|q <;> rw[q] at old <;> exact old
     have:=fin adI rfl
     rw[Option.map_some]
     split
     ·rename_i q;replace q:=(if_neg (by intro h;replace q:=(if_pos h)▸q;contradiction))▸q;contradiction
     ·exact this
     ·exact this
     ·trivial
  ·rw[kind] at av
   cases e:scope.names.lookup (nm z) with
   | none=>rw[e] at av;exact ns av
   | some k=>
    have hm:=mem_lookup e
    rw[e,Option.map_some] at av
    cases k with
    | cell=>refine dc (gi _ hm) fun ca o f1 f2=>?_;exact ji ca o _ (by rw[fz];exact f1) (List.mem_append_left _ f2) ((fw _ f2).1)
    | free=>
     have ez:env.kindOf (nm z)=some .cell:=by
      by_cases q:(NameKind.free==NameKind.free&&env.scope.kind==.function&&env.kindOf (nm z)==some .cell)=true
      ·simp only[Bool.and_eq_true,beq_iff_eq] at q;exact q.2
      ·replace av:=(if_neg q)▸av;contradiction
     refine hN (j0.own z ez bb) fun ca o c f1 f2 dL=>?_
     have k7:(nm z,NameKind.cell)∉scope.names:=fun q=>by have:=K.uniq _ _ q;replace this:=e▸this;contradiction
     exact ji ca o c (by rw[fz,i4 _ k7,jK _ hm];exact f1) (List.mem_append_right _ f2) dL
    | «local»=>simp at av
    | globalExplicit=>simp at av
    | globalImplicit=>simp at av
  ·rw[fz] at bp aS
   exact i5 (fun x y ca aE bj=>j0.inj x y ca (zm x ca aE) (zm y ca bj)) (fun x ca aE=>by
    exact Nat.lt_of_lt_of_le (fY x ca (zm x ca aE)) (by rw[ak];exact Nat.le_succ_of_le (Nat.le_succ _))) a b ca bp aS
  ·rw[fz] at a5
   rcases j1 z ca a5 with a5|⟨⟨bK,hR⟩,_⟩
   ·exact(j0.jH z ca (zm z ca a5)).imp (fun Z2=>by refine dc Z2 fun bK c a b=>?_;exact hx bK c (List.mem_append_right _ a) b) id
   ·exact .inl ⟨bK,_,List.mem_append_left _ hR,(fw _ hR).1⟩
 have k7:MN bv own cX:=fun i aN av=>by
  rw[kind] at av
  cases e:scope.names.lookup (nm i) with
  | none=>replace av:=e▸av;exact ns av
  | some k=>
   have bb:=(K.own i aN).2
   unfold eS at bb
   replace bb:=e▸bb
   cases k with
   | cell=>refine dc (gi _ (mem_lookup e)) fun ca o f1 f2=>?_;exact ji ca o _ (by rw[fz];exact f1) f2 ((fw _ f2).1)
   | «local»=>rw[e] at av;simp at av
   | _=>injection bb
 have lq:cB B bv.locals (fun Z=>none) g (((cX++cs)++ms)++((D,lst [] 0)::((bU,o)::(env.locals,cm)::R))) H:=by
  rw[wl]
  refine cB.close (o:={cls:=.type "dict",data:=.dict #[]}) (dq.perm ?_) afX
  refine List.perm_middle.trans (List.Perm.cons _ ?_)
  rw[List.append_assoc cX cs ms,List.append_assoc cX]
  refine List.Perm.append_left cX ?_
  have aK:((env.locals,cm)::(cs++ms++(bU,o)::R)).Perm (cs++ms++(bU,o)::(env.locals,cm)::R):=by
   have:=(List.perm_middle (a:=(env.locals,cm)) (l₁:=cs++ms++[(bU,o)]) (l₂:=R)).symm
   simpa using this
  exact(List.Perm.cons _ aK).trans List.perm_middle.symm
 have rN:=K.own x mQ
 have loop:codeAny (model bD w) A (.compLoop (.ListComp elt (⟨.Name bP e4,iter,ifs,0⟩::rest) scope pos) 0 (.ref bU) (.ref D) bv) (RR (.ref D) C) {s with heap:=H}:=
  I6 (b:=false) (S:=S) (s:={s with heap:=H}) NY hs rfl (by simpa using h0) rN.2 rN.1 mQ eX (jZ bv cs D NY) aI eB bY ei (fun h=>by injection h) (hy _ cX ms 0 k7 t9 bu lq) (by rfl)
   fun fK ρ' ao gv aC t' av cb ex F3 aA=>by
    refine h9 F3 fun b3 tH ms' dC a1 a2 jT pE=>?_
    refine aW pE.open fun fe hG Z=>?_
    rw[wl] at hG
    refine fin D C fK ρ' ao gv dC fe b3 ms' aC t' av cb ex ?_ (wl▸pE.ns) jT aA
    have jY:bx B ao ((env.locals,cm)::((cs++ms')++((C,fe)::(D,lst gv dC)::R))) aC:=by
     have p:((C,fe)::(((tH++cs)++ms')++((D,lst gv dC)::(env.locals,cm)::R))).Perm (((env.locals,cm)::((cs++ms')++((C,fe)::(D,lst gv dC)::R)))++tH):=by
      refine List.Perm.trans ?_ List.perm_append_comm
      rw[List.append_assoc tH cs ms',List.append_assoc tH]
      refine(List.perm_middle (a:=(C,fe)) (l₁:=tH)).symm.trans (List.Perm.append_left tH ?_)
      have aK:((env.locals,cm)::(cs++ms'++(C,fe)::(D,lst gv dC)::R)).Perm (cs++ms'++(C,fe)::(D,lst gv dC)::(env.locals,cm)::R):=by
       have:=(List.perm_middle (a:=(env.locals,cm)) (l₁:=cs++ms'++[(C,fe),(D,lst gv dC)]) (l₂:=R)).symm
       simpa using this
      exact(List.perm_middle (a:=(C,fe)) (l₁:=cs++ms')).symm.trans aK.symm
     exact(hG.perm p).sub (List.sublist_append_left _ _)
    exact cB.close jY (ua _ (jY.own (env.locals,cm) (.head _)))
 refine Gr rfl rfl loop ?_
 have kD:bx B g ((bU,o)::(cX++(C,{cls:=.type "dict",data:=.dict #[]})::(D,lst [])::(env.locals,cm)::(cs++ms++R))) H:=dq.perm (by
  have:=(List.perm_middle (a:=(bU,o)) (l₁:=cX++(C,{cls:=.type "dict",data:=.dict #[]})::(D,lst [])::(env.locals,cm)::(cs++ms)) (l₂:=R))
  simpa using this)
 exact bY.self 0 o g eB (.refl _) A _ {s with heap:=H} _ _ aI kD loop
end
end
section
variable {w:World} {B:bC w} {n:Nat} {env:Env} {ρ:aO} {g:G} {sc:List (Str×NameKind)}
noncomputable def cE(x:Nat)(eb:List Nat)(eh:bG)(T:db)(S:iz):bG:=fun ρ k=>eh ρ fun d aY=>match vN d with
 | some ds=>dO (eb.all fun y=>(bT aY y).isNone) (fJ x T S ds [] aY fun out bW=>k (.list out) bW)
 | none=>False
theorem bx.Vx{l:a7}{h aC:Heap}{a:Addr}{o:Obj}(S:bx B g ((a,o)::l) h)(hs:Heap.SameBut a h aC):bx B g l aC:=S.extBut hs.extBut
section
variable {elt:Expr} {scope:Scope} {pos:Pos} {eb:List Nat} {x:Nat} {eh:bG} {T:db} {S:iz} {bP:Str} {e4:Pos} {iter:Expr} {ifs:List Expr} {rest:List Comprehension}
theorem JC{use:Option (Value->Sem Unit)}(K:vO sc scope (x::eb))(ok:cS sc env)(hs:nm x=bP)(aN:bI B n sc iter eh)(h0:∀ao∈rest[0]?,ao.is_async=0)(eX:(ifs=[]/\T=cg)∨∃c,ifs=[c]/\ST B n scope.names c T)(hf:∀env y,foldedSetIterable iter env y=pure y)(jZ:∀bv cs D,cS scope.names bv->kV B n bv (x::eb) cs D (jy (.ListComp elt (⟨.Name bP e4,iter,ifs,0⟩::rest) scope pos) (⟨.Name bP e4,iter,ifs,0⟩::rest) elt 0 (.ref D) bv) S){h7:D->aO->Prop}(ei:cE x eb eh T S ρ h7){m:Str->Option Value}{cs ms R:a7}{ae:List Value}{A:Around}{E:Value->Shared->Prop}{s:Shared}{Q:Value->Shared->Prop}(aI:dk n A)(j0:dP env m cs g ρ ae)(bu:c6 w g ρ ae ms)(F:cB B env.locals m g ((cs++ms)++R) s.heap)(fin:∀D C out ρ' ao ys dC fe ng ms' aC t',h7 (.list out) ρ'->du ρ'=du ρ->Ext g ao->cB B env.locals m ao ((cs++ms')++((C,fe)::(D,lst ys dC)::R)) aC->aC.Ns C ng->c6 w ao ρ' ae ms'->bE w ao out ys->
   compPost (model bD w) A E use Q (.ref D) C (.ok .next) {s with heap:=aC,toks:=t'}):
  wpAny (model bD w) A (comprehension (.ListComp elt (⟨.Name bP e4,iter,ifs,0⟩::rest) scope pos) scope env (firstIterPos (⟨.Name bP e4,iter,ifs,0⟩::rest) pos) (newList []) false (eval iter env) use) Q E s:=by
 refine cps fun ed bR=>?_
 obtain⟨cl,jK,w2,zW,_⟩:=IB (env:=env) (scope:=scope) fun y bj=>by
  rcases K.ob y (K.uniq _ _ bj) with q|q
  ·exact ok.wZ y (.inl (ok.jI y q))
  ·exact ok.wZ y (ok.ob y q)
 refine bR ?_
 clear bR
 refine wpAny_comprehension_free (use:=use) (g:=⟨.Name bP e4,iter,ifs,0⟩) (gs:=rest) rfl (hf env) jK K.fn (fun y bj aF=>by exact(K.uniq y.1 y.2 bj).symm▸aF.symm▸rfl) ?_
 refine g4 fun ai2 Z3=>?_
 refine aN env ok ρ g _ ei m cs ae ms j0 bu A E s R _ aI F fun v b3 bQ E4 cn ic cv kG=>?_
 refine cps fun ed bR=>?_
 obtain⟨aD,ex,aY,cr,cb,ak,ry,d,hd,oc⟩:=cv
 subst aD ak
 refine bR ?_
 clear bR
 split at oc
 ·rename_i ds cJ
  refine cps fun ed bR=>?_
  refine bS (eu oc) fun ho oc=>?_
  refine aW kG.open fun cm cM c=>?_
  refine bR ?_
  clear bR
  refine Z3 _ _ ?_
  refine yk (n:=n) cJ hd A _ _ _ _ aI cM fun bU o eZ cz dz eB bY cC=>?_
  have d3:cB B env.locals m bQ ((cs++cr)++((bU,o)::R)) cz:=by
   have dq:bx B bQ ((env.locals,cm)::((cs++cr)++((bU,o)::R))) cz:=cC.perm (by
    refine(List.Perm.swap _ _ _).trans (List.Perm.cons _ ?_)
    exact List.perm_middle.symm)
   exact cB.close dq (c _ (dq.own (env.locals,cm) (.head _)))
  refine T0 (s:={s with heap:=cz,toks:=dz}) (S:=S) (RR:=compPost (model bD w) A E use Q) K ok hs h0 (.head _) (fun y bj kn=>?_) eX jZ w2 zW aI (j0.mono ex cb) ry d3 eB bY oc fun D C fK ρ' ao ys dC fe ng ms' aC t' av afY e1 cI ub d1 aA=>?_
  ·rcases List.mem_cons.mp bj with e|bj
   ·exact absurd e kn
   ·have:=List.all_eq_true.mp ho y bj
    simpa using this
  ·exact fin D C fK ρ' ao ys dC fe ng ms' aC t' av (afY.trans cb) (ex.trans e1) cI ub d1 aA
 ·exact oc.elim
theorem cB.De{L C:Addr}{m:Str->Option Value}{l R:a7}{h aC:Heap}{fe:Obj}(F:cB B L m g (l++((C,fe)::R)) h)(hs:Heap.SameBut C h aC):cB B L m g (l++R) aC:=by
 refine aW F.open fun cm S c=>?_
 have cC:=(S.perm (l':=(C,fe)::((L,cm)::(l++R))) (by exact List.cons_append▸List.perm_middle)).Vx hs
 exact cB.close cC (c _ (cC.own (L,cm) (.head _)))
theorem cB.Kn{L D:Addr}{m:Str->Option Value}{l R:a7}{h:Heap}{ys:List Value}{dC:Nat}(F:cB B L m g (l++((D,lst ys dC)::R)) h):∃ao,Ext g ao/\ao D=some (gQ ys)/\cB B L m ao (l++R) h:=by
 refine aW F.open fun cm S c=>?_
 refine bS ((S.perm (l':=(D,lst ys dC)::((L,cm)::(l++R))) (by exact List.cons_append▸List.perm_middle)).freeze (P:=gQ ys) ⟨dC,rfl⟩) fun cC e=>?_
 exact gu _ e (iE ..) (cB.close cC (c _ (cC.own (L,cm) (.head _))))
theorem yL(av:sw sc scope (x::eb)=true)(hs:nm x=bP)(aN:bI B n sc iter eh)(eX:(ifs=[]/\T=cg)∨∃c,ifs=[c]/\ST B n scope.names c T)(jZ:∀bv cs D,cS scope.names bv->kV B n bv (x::eb) cs D (jy (.ListComp elt (⟨.Name bP e4,iter,ifs,0⟩::rest) scope pos) (⟨.Name bP e4,iter,ifs,0⟩::rest) elt 0 (.ref D) bv) S)(h0:∀ao∈rest[0]?,ao.is_async=0:=by intro Z h;simp at h;try subst h;rfl)(hf:∀env y,foldedSetIterable iter env y=pure y:=by intro Z Z;rfl):
  bI B n sc (.ListComp elt (⟨.Name bP e4,iter,ifs,0⟩::rest) scope pos) (cE x eb eh T S):=fun env ok ρ g Q ei=>by
 intro m cs ae ms j0 bu A E s R K aI F k
 skip
 refine JC (use:=none) (.of av) ok hs aN h0 eX hf jZ ei aI j0 bu F fun D C out ρ' ao ys dC fe ng ms' aC t' aL cb ex cI ub d1 aA=>?_
 refine⟨ng,ub,fun gw adJ=>?_⟩
 refine eT ((cI.De adJ).Kn) fun k6 e kF rz=>?_
 exact k (.ref D) m k6 (cs++ms') gw t' ⟨rfl,ex.trans e,ρ',ms',cb,rfl,d1.mono e,.list out,by exact dW D ys rfl kF (aA.mono e),aL⟩ rz
theorem Tq{y:Str}{py rg:Pos}(ok:cS sc env)(bj:sc.lookup y=some .local)(aF:(py.line==pos.line)=true)(hn:(scope.names.any fun p=>p.1==y&&(p.2==.local||p.2==.cell))=false):
  swapsWith (.ListComp elt rest scope pos) (some (.Name y py)) rg.line env=pure true:=by
 show (pure (env.blockKind==.function&&env.kindOf y==some .local&&py.line==pos.line&&!(scope.names.any fun p=>p.1==y&&(p.2==.local||p.2==.cell))):Sem Bool)=_
 refine(ok.loc _ bj).symm▸aF.symm▸hn.symm▸?_
 have:env.blockKind=.function:=by unfold Env.blockKind;exact ok.fn.symm▸rfl
 refine this.symm▸?_;rfl
theorem Tr{y:Str}{py rg:Pos}(ok:cS sc env)(bj:sc.lookup y=some .cell):swapsWith (.ListComp elt rest scope pos) (some (.Name y py)) rg.line env=pure false:=by
 show (pure (env.blockKind==.function&&env.kindOf y==some .local&&py.line==pos.line&&!(scope.names.any fun p=>p.1==y&&(p.2==.local||p.2==.cell))):Sem Bool)=_
 refine(ok.jI _ bj).symm▸?_
 have:(some NameKind.cell==some NameKind.local)=false:=rfl
 rw[this,Bool.and_false,Bool.false_and,Bool.false_and]
noncomputable def mH(y:Nat)(x:Nat)(eb:List Nat)(eh:bG)(T:db)(S:iz):bh:=fun ρ k=>cE x eb eh T S ρ fun d aY=>match d with|.list out=>dO (i1 aY y) (∀a,putK aY y (.mt a (.list out)) (k .cx))|_=>False
theorem Bx{y:Nat}{iR:Str}{py rg:Pos}(av:sw sc scope (x::eb)=true)(hs:nm x=bP)(aN:bI B n sc iter eh)(eX:(ifs=[]/\T=cg)∨∃c,ifs=[c]/\ST B n scope.names c T)(jZ:∀bv cs D,cS scope.names bv->kV B n bv (x::eb) cs D (jy (.ListComp elt (⟨.Name bP e4,iter,ifs,0⟩::rest) scope pos) (⟨.Name bP e4,iter,ifs,0⟩::rest) elt 0 (.ref D) bv) S)(w3:nm y=iR)(bj:sc.lookup iR=some .local)(aF:(py.line==pos.line)=true)(hn:(scope.names.any fun p=>p.1==iR&&(p.2==.local||p.2==.cell))=false)(NZ:y<d6.length:=by decide)(h0:∀ao∈rest[0]?,ao.is_async=0:=by intro Z h;simp at h;try subst h;rfl)(hf:∀env y,foldedSetIterable iter env y=pure y:=by intro Z Z;rfl):
  dp B n sc (.Assign [.Name iR py] (.ListComp elt (⟨.Name bP e4,iter,ifs,0⟩::rest) scope pos) rg) (bM y (cE x eb eh T S))/\
  dp B n sc (.Assign [.Name iR py] (.ListComp elt (⟨.Name bP e4,iter,ifs,0⟩::rest) scope pos) rg) (mH y x eb eh T S):=by
 subst w3
 have MQ:eS sc (nm y)=true:=by unfold eS;rw[bj]
 have key:∀(env:Env) (ok:cS sc env) (ρ:aO) (g:G) (Q:dM->aO->Prop) (h7:D->aO->Prop),cE x eb eh T S ρ h7->
   (∀D out ρ' ao ys dC,h7 (.list out) ρ'->bE w ao out ys->i1 ρ' y=true/\((∃V,jD w ao V (.ref D) [(D,lst ys dC)]/\V.eV=false/\Q .cx (hr ρ' y V))∨Q .cx (hr ρ' y (.aX (.list out)))))->
   b9 B n env (exec (.Assign [.Name (nm y) py] (.ListComp elt (⟨.Name bP e4,iter,ifs,0⟩::rest) scope pos) rg) env) ρ g fun f ρ' ao=>∃a8,rt w ao ρ' a8 f/\Q a8 ρ':=by
  intro env ok ρ g Q h7 ei aL m cs ae ms j0 bu A E s R K aI F k
  refine(exec_Assign_Name_used _ _ _ _ (Tq ok bj aF hn)).symm▸?_
  refine wpAny_bind (wpAny_standAt (wpAny_bind ?_))
  refine wpAny_bind (wpAny_mono (JC (use:=some (assign (.Name (nm y) py) env)) (Q:=fun Z bP=>K .next bP) (.of av) ok hs aN h0 eX hf jZ ei aI j0 bu F ?_) (fun Z bP aL=>wpAny_pure (wpAny_pure aL)) fun Z Z e=>e)
  intro D C out ρ' ao ys dC fe ng ms' aC t' g8 cb ex cI ub d1 aA
  refine bS (aL D out ρ' ao ys dC g8 aA) fun k7 g8=>?_
  have N0:=j0.mono ex cb
  rcases g8 with⟨V,fu,ajr,j2⟩|j2
  ·refine wpAny_assign_Name (da.store (B:=B) (n:=n) ok MQ NZ N0 d1 fu (vM k7) A _ _ ((C,fe)::R) _ aI ?_ fun Z m₂ cH cr cz dz ⟨e,d5,vs',fh,F4,bz,E5⟩ d3=>?_)
   ·have:((cs++ms')++((C,fe)::(D,lst ys dC)::R)).Perm ((cs++(ms'++[(D,lst ys dC)]))++((C,fe)::R)):=by
     simp only[List.append_assoc,List.cons_append,List.nil_append]
     exact(List.Perm.swap _ _ _).append_left ms' |>.append_left cs
    exact⟨cI.cb.perm this,cI.ns,cI.pG,fun q aL=>cI.ot q (this.mem_iff.mpr aL)⟩
   ·subst e bz
    refine aW d3.open fun cm cC c₂=>?_
    refine⟨ng,Heap.y6 ub (cI.cb.own (C,fe) (by simp)) (cC.own (C,fe) (by simp)),fun jp E6=>?_⟩
    exact k _ m₂ ao (d5++fh) jp dz ⟨ex,_,d5,vs',fh,F4,rfl,E5,.cx,trivial,j2⟩ (d3.De E6)
  ·have:((cs++ms')++((C,fe)::(D,lst ys dC)::R)).Perm ((cs++ms')++((D,lst ys dC)::(C,fe)::R)):=(List.Perm.swap _ _ _).append_left _
   have rz:cB B env.locals m ao ((cs++ms')++((D,lst ys dC)::(C,fe)::R)) aC:=⟨cI.cb.perm this,cI.ns,cI.pG,fun q aL=>cI.ot q (this.mem_iff.mpr aL)⟩
   refine eT rz.Kn fun cH e kF d3=>?_
   have st:=da.store (B:=B) (n:=n) (V:=.aX (.list out)) (v:=.ref D) (b2:=[]) ok MQ NZ (N0.mono e rfl) (d1.mono e) ⟨rfl,by exact dW D ys rfl kF (aA.mono e)⟩ (vM k7)
   rw[List.append_nil] at st
   refine wpAny_assign_Name (st A _ _ ((C,fe)::R) _ aI d3 fun Z m₂ mn cr cz dz cv uc=>?_)
   refine cps fun ed bR=>?_
   obtain⟨eA,d5,vs',fh,F4,bz,E5⟩:=cv
   subst eA bz
   refine aW uc.open fun cm cC c₂=>?_
   refine bR ?_
   clear bR
   refine⟨ng,Heap.y6 ub (cI.cb.own (C,fe) (by simp)) (cC.own (C,fe) (by simp)),fun jp E6=>?_⟩
   exact k _ m₂ cH (d5++fh) jp dz ⟨ex.trans e,_,d5,vs',fh,F4,rfl,E5,.cx,trivial,j2⟩ (uc.De E6)
 refine⟨fun env ok ρ g Q ei=>key env ok ρ g Q _ ei fun D out ρ' ao ys dC av aA=>⟨(eu av).1,.inr (lM (eu av).2)⟩,fun env ok ρ g Q ei=>key env ok ρ g Q _ ei fun D out ρ' ao ys dC av aA=>⟨(eu av).1,.inl ⟨.mt D (.list out),⟨rfl,ys,dC,rfl,aA⟩,rfl,lM ((eu av).2 D)⟩⟩⟩
end
end
section
variable {w:World} {B:bC w} {n:Nat} {env:Env} {ρ:aO} {g:G} {sc:List (Str×NameKind)}
theorem in1_units(A:Around):A.in1.units<=A.units+20:=by simp[Around.in1]
theorem dk.deeper{A:Around}{env:Env}(h:dk (n+1) A):dk n (A.deeper env):=by
 refine fW h fun aw ai a3=>?_
 exact⟨aw,by show A.depth+1+n<=900;lia,by show A.units+_+20 * n<=9000;lia⟩
noncomputable def bindAll(ρ:aO):List (Nat×V)->aO
 | []=>ρ
 | p::ps=>bindAll (hr ρ p.1 p.2) ps
noncomputable def mJ(sc:List (Str×NameKind))(ps:List Nat):Bool:=ps.all fun i=>decide (i<d6.length)&&eS sc (nm i)
theorem Be{sc:List (Str×NameKind)}(ok:cS sc env){f:Str×Value->PUnit->Sem (ForInStep PUnit)}(hf:∀n v u,f (n,v) u=(do storeName env n v;pure (.yield ⟨⟩))):
  ∀(ps:List (Nat×V)) (vals:List Value) (b2:a7) {ρ:aO} {m:Str->Option Value} {cs ms R:a7} {ae:List Value} {A:Around} {E:Value->Shared->Prop} {s:Shared} {K:PUnit->Shared->Prop},mJ sc (ps.map (·.1))=true->(∀p∈ps,p.2.eV=false)->
   dk n A->dP env m cs g ρ ae->(∀x V,bT ρ x=some V->V.eV=false)->c6 w g ρ ae ms->c6 w g ps vals b2->cB B env.locals m g ((cs++ms)++(b2++R)) s.heap->
   (∀b3 d5 vs' ms' aC t',dP env b3 d5 g (bindAll ρ ps) vs'->c6 w g (bindAll ρ ps) vs' ms'->cB B env.locals b3 g ((d5++ms')++R) aC->K ⟨⟩ {s with heap:=aC,toks:=t'})->
   wpAny (model bD w) A (forIn ((ps.zip vals).map fun p=>(nm p.1.1,p.2)) ⟨⟩ f) K E s
 | [],vals,b2,ρ,m,cs,ms,R,ae,A,E,s,K,Z,bt,aI,T,cD,bu,mq,F,k=>by
  obtain⟨rfl,rfl⟩:=mq
  exact wpAny_pure (k m cs ae ms s.heap s.toks T bu F)
 | (x,V)::ps,vals,b2,ρ,m,cs,ms,R,ae,A,E,s,K,bc,bb,aI,T,ud,bu,mq,F,k=>by
  refine h9 mq fun v r m₁ m₂ wi adK fu afZ=>?_
  subst wi
  subst adK
  unfold mJ at bc
  simp only[List.map_cons,List.all_cons,Bool.and_eq_true,decide_eq_true_eq] at bc
  obtain⟨⟨aS,aE⟩,pw⟩:=bc
  show wpAny _ _ (forIn ((nm x,v)::(ps.zip r).map fun p=>(nm p.1.1,p.2)) _ f) _ _ _
  rw[List.forIn_cons,hf]
  have jL:q2 ρ x:=by
   unfold q2
   cases q:bT ρ x with
   | none=>simp
   | some U=>simp[ud x U q]
  refine wpAny_bind (wpAny_bind (da.store (B:=B) (n:=n) ok aE aS T bu fu jL A E s (m₂++R) _ aI ?_ fun Z b3 ao ms' aC t' ⟨e,d5,vs',cr,hb,ak,d1⟩ cI=>wpAny_pure ?_))
  ·have:((cs++ms)++((m₁++m₂)++R))=((cs++(ms++m₁))++(m₂++R)):=by simp
   exact this▸F
  ·subst e ak
   refine Be ok hf ps r m₂ (by exact pw) (fun p bc=>bb p (.tail _ bc)) aI hb (fun y U bj=>?_) d1 afZ cI fun gM adL adM adN gw iM a b c=>k gM adL adM adN gw iM a b c
   refine fq (bu.put x fu) fun Z Z Z Z Z Z b5=>?_
   rw[b5] at bj
   by_cases q:y=x
   ·replace bj:=(if_pos q)▸bj;obtain rfl:=Option.some.inj bj;exact bb (x,V) (.head _)
   ·rw[if_neg q] at bj;exact ud y U bj
noncomputable def zX(w:World)(g:G)(ρ:aO):dM->Value->Prop
 | .cx,v=>v=.none
 | .dv (.aX d),v=>Rep w g d v
 | .dv (.mt a o),v=>v=.ref a/\∃x,bT ρ x=some (.mt a o)
 | .dv (.cf Z),bt=>False
noncomputable def mR(sc:Scope):Bool:=sc.kind==.function&&!sc.isCoroutine&&!sc.isGenerator&&sc.names.all fun p=>sc.names.lookup p.1==some p.2&&p.2 != .free
theorem u1{M:Model}{A:Around}{E:Value->Shared->Prop}{s:Shared}{scope:Scope}{globals:Addr}{closure:List (Str×Addr)}{binds:List (Str×Value)}{qual:Str}{func:Option Addr}{code:Value}{builtins:Addr}{Q:Env->Shared->Prop}(h:wpAny M A (forIn binds PUnit.unit fun(x:Str×Value) (Z:PUnit)=>do storeName (newEnv scope s.heap.objs.size globals (cellsFrom (s.heap.objs.size+1) scope.names closure) qual func code none builtins) x.1 x.2;pure (ForInStep.yield PUnit.unit))
    (fun Z bP=>Q (newEnv scope s.heap.objs.size globals (cellsFrom (s.heap.objs.size+1) scope.names closure) qual func code none builtins) bP) E
   {s with heap:=PySem.pushCells (s.heap.push {cls:=.type "frame",data:=.dict #[]}) scope.names}):
  wpAny M A (newFunctionEnv scope globals closure binds qual func code none builtins) Q E s:=by
 refine wpAny_bind (wpAny_alloc ?_)
 refine wpAny_bind (wpAny_layCells _ (fun name kind cells=>by cases E1:kind==NameKind.cell <;> simp[E1]) _ _ _ _ ?_)
 exact(show ({s with heap:=s.heap.push {cls:=.type (if (none:Option Env).isSome then "dict" else "frame"),data:=.dict #[]}}:Shared).heap.objs.size=s.heap.objs.size+1 from Heap.size_push ..).symm▸(wpAny_bind (wpAny_mono h (fun Z bP aL=>wpAny_pure aL) fun Z Z e=>e))
noncomputable def E7(B:bC w)(n:Nat)(f:Addr)(vals:List Value)(g:G)(ms:a7)(Q:Value->G->a7->Prop):Prop:=
 ∀(A:Around) (E:Value->Shared->Prop) (s:Shared) (R:a7) (K:Value->Shared->Prop),dk n A->bx B g (ms++R) s.heap->
  (∀v ao ms' aC t',Q v ao ms'->bx B ao (ms'++R) aC->K v {s with heap:=aC,toks:=t'})->codeAny (model bD w) A (.call (.ref f) ⟨vals,[]⟩) (fun r bP=>match r with|.ok (.ret v)=>K v bP|.ok _=>False|.error e=>E e bP) s
theorem code_defG{fa c:Addr}{kp q:Str}{d:nb}{eO:Value}(m4:∃pm,B.fc.get? fa=some (jw kp q d c eO pm))(jM:B.fc.CodeRec (.ref c) q){W:bh}(aS:SB B n d.scope.names d.body W)(iN:mR d.scope=true)(kq:codeOf d.scope.names=none∨c=798){ps:List (Nat×V)}{vals fA:List Value}{b2:a7}(i9:∀(pm:Value) (s:Shared) l,bx B g l s.heap->BindsTo s (fdOf kp q d c eO pm) ⟨vals,[]⟩ ((ps.zip fA).map fun p=>(nm p.1.1,p.2)))(rA:mJ d.scope.names (ps.map (·.1))=true)(jL:∀p∈ps,p.2.eV=false)(mq:c6 w g ps fA b2){Q:dM->aO->Prop}(ei:W (bindAll [] ps) Q):
  E7 B (n+1) fa vals g b2 fun v ao ms'=>Ext g ao/\∃a8 ρ' vs',c6 w ao ρ' vs' ms'/\zX w ao ρ' a8 v/\Q a8 ρ':=by
 intro A E s R K aI S k
 refine cQ m4 fun pm hf=>?_
 have lS:=iN
 unfold mR at lS
 simp only[Bool.and_eq_true,beq_iff_eq,Bool.not_eq_true',List.all_eq_true,bne_iff_ne] at lS
 refine bS lS fun Z4 s4=>?_
 obtain⟨⟨s1,s2⟩,s3⟩:=Z4
 refine(codeAny_call_function (by have:=aI.2.1;show A.depth<1000;lia) (S.stays _ _ hf) rfl s2 s3 rfl (jM.keeps S.stays) (i9 pm s _ S _ _ _ _ (u1 ?_)))
 refine ph (bx.pushCells (l:=[]) (B:=B) (g:=g) d.scope.names _ [] _ (S.push {cls:=.type "frame",data:=.dict #[]})) fun cX dq fw j1 gi i4 kE i5=>?_
 rw[(Heap.size_push ..)] at fw j1 gi i4 kE i5
 have l6:(PySem.pushCells (s.heap.push {cls:=.type "frame",data:=.dict #[]}) d.scope.names).Ns s.heap.objs.size (fun Z=>none):=(Heap.Ns.new s.heap (.type "frame")).keeps (pushCells_keeps _ _)
 show wpAny _ _ _ _ _ {s with heap:=PySem.pushCells (s.heap.push {cls:=.type "frame",data:=.dict #[]}) d.scope.names}
 generalize PySem.pushCells (s.heap.push {cls:=.type "frame",data:=.dict #[]}) d.scope.names=H at *
 generalize dw:newEnv (fdOf kp q d c eO pm).scope s.heap.objs.size _ _ _ _ _ _ _=bv
 have fz:bv.cells=cellsFrom (s.heap.objs.size+1) d.scope.names []:=by exact congrArg _ dw.symm
 have kind:∀x,bv.kindOf x=d.scope.names.lookup x:=fun x=>by exact dw▸rfl
 have ok:cS d.scope.names bv:=by
  refine⟨by refine dw▸?_;exact s1,by exact congrArg _ dw.symm,by exact congrArg _ dw.symm,fun x aE=>by rw[kind,aE],fun x aE=>by rw[kind,aE],fun x aE=>absurd rfl (s4 _ (mem_lookup aE)).2,fun x aE=>by rw[kind,aE],fun x aE=>?_,fun cV bb=>?_⟩
  rotate_left
  ·rcases kq with e|e
   ·replace bb:=e▸bb;injection bb
   ·refine bS (ea bb) fun Z D2=>?_;subst D2;exact dw▸e▸rfl
  rw[kind] at aE
  rcases aE with aE|aE
  ·refine dc (gi x (mem_lookup aE)) fun ca o f1 f2=>?_;exact⟨ca,by exact fz.symm▸f1⟩
  ·exact absurd rfl (s4 _ (mem_lookup aE)).2
 have nh:dP bv (fun Z=>none) cX g [] []:=by
  refine⟨fun x v aP=>(by injection aP),fun x av Z=>?_,fun x y ca aE bj=>?_,fun x v aP=>(by injection aP),fun x ca aE=>?_⟩
  ·rw[kind] at av
   refine dc (gi _ (mem_lookup av)) fun ca o f1 f2=>?_
   exact ji ca o _ (by exact fz.symm▸f1) f2 ((fw _ f2).1)
  ·rw[fz] at aE bj
   exact i5 (fun Z Z Z h=>by injection h) (fun Z Z h=>by injection h) x y ca aE bj
  ·rw[fz] at aE
   rcases j1 x ca aE with aE|⟨⟨o,ho⟩,_⟩
   ·injection aE
   ·exact .inl ⟨o,_,ho,(fw _ ho).1⟩
 have pL:cB B bv.locals (fun Z=>none) g ((cX++[])++(b2++R)) H:=by
  rw[(show bv.locals=s.heap.objs.size from by exact congrArg _ dw.symm),List.append_nil]
  exact cB.close (dq.perm List.perm_middle) l6
 refine Be (n:=n) (A:=A.in1) ok (fun Z Z Z=>rfl) ps fA b2 rA jL ⟨aI.1,Nat.le_trans (Nat.add_le_add_left (Nat.le_succ n) _) aI.2.1,by have:=aI.2.2;lia⟩ nh (fun Z Z h=>by exact ns h) ⟨rfl,rfl⟩ mq pL fun b3 d5 vs' ms' aC t' hb d1 cI=>?_
 refine⟨(B.nolimit.keeps cI.cb.stays),codeAny_func ?_⟩
 refine b9.run (aS bv ok _ g _ ei) aI.deeper (s:={s with heap:=aC,toks:=t'}) ⟨b3,d5,vs',ms',hb,d1,cI⟩ fun f ρ' ao gw iM ex cv hQ=>?_
 refine cps fun ed bR=>?_
 obtain⟨a8,gL,aL⟩:=cv
 refine l0 hQ fun m₂ af0 w4 cr uf jN d3=>?_
 refine bR ?_
 clear bR
 refine k _ ao cr gw iM ⟨ex,a8,ρ',w4,jN,?_,aL⟩ ((d3.cb).sub (by rw[List.append_assoc];exact List.sublist_append_right _ _))
 cases a8 with
 | cx=>
  cases f with
  | next=>rfl
  | _=>exact gL.elim
 | dv V=>
  cases f with
  | ret v=>cases V <;> exact gL
  | next=>cases V <;> exact gL.elim
  | brk=>cases V <;> exact gL.elim
  | cont=>cases V <;> exact gL.elim
theorem T1{fa c:Addr}{kp q:Str}{d:nb}{eO:Value}(m4:∃pm,B.fc.get? fa=some (jw kp q d c eO pm))(jM:B.fc.CodeRec (.ref c) q){W:bh}(aS:SB B n d.scope.names d.body W)(iN:mR d.scope=true)(kq:codeOf d.scope.names=none∨c=798){ps:List (Nat×V)}{vals fA:List Value}{b2:a7}(i9:∀(pm:Value) (s:Shared) l,bx B g l s.heap->BindsTo s (fdOf kp q d c eO pm) ⟨vals,[]⟩ ((ps.zip fA).map fun p=>(nm p.1.1,p.2)))(rA:mJ d.scope.names (ps.map (·.1))=true)(jL:∀p∈ps,p.2.eV=false)(mq:c6 w g ps fA b2){Q:dM->aO->Prop}(ei:W (bindAll [] ps) Q):
  eG B (n+1) (call (.ref fa) vals) g b2 fun v ao ms'=>Ext g ao/\∃a8 ρ' vs',c6 w ao ρ' vs' ms'/\zX w ao ρ' a8 v/\Q a8 ρ':=
 fun A E s R K aI S k=>wpAny_call (code_defG m4 jM aS iN kq i9 rA jL mq ei A E s R K aI S k)
theorem BK{r:bV}(aA:r∈rows){W:bh}(aS:SB B n (bd r.i).scope.names (bd r.i).body W)(iN:mR (bd r.i).scope=true)(kq:codeOf (bd r.i).scope.names=none∨r.c=798){ps:List (Nat×V)}{vals fA:List Value}{b2:a7}(i9:∀(pm:Value) (s:Shared) l,bx B g l s.heap->BindsTo s (fdOf r.name r.name (bd r.i) r.c r.eO pm) ⟨vals,[]⟩ ((ps.zip fA).map fun p=>(nm p.1.1,p.2)))(rA:mJ (bd r.i).scope.names (ps.map (·.1))=true)(jL:∀p∈ps,p.2.eV=false)(mq:c6 w g ps fA b2){Q:dM->aO->Prop}(ei:W (bindAll [] ps) Q):
  eG B (n+1) (call (.ref r.a) vals) g b2 fun v ao ms'=>Ext g ao/\∃a8 ρ' vs',c6 w ao ρ' vs' ms'/\zX w ao ρ' a8 v/\Q a8 ρ':=
 T1 (B.fn r aA) (B.cd r aA) aS iN kq i9 rA jL mq ei
end
section
variable {w:World} {B:bC w} {n:Nat} {env:Env} {ρ:aO} {g:G} {sc:List (Str×NameKind)}
theorem b1.lT{α:Type}{t:Sem α}{Q:α->aO->G->Prop}(h:eG B n t g [] fun v ao Z=>Ext g ao/\Q v ρ ao):b1 B n env t ρ g Q:=fun m cs ae ms T bu=>
 .y5 (.C5 ((eG.frame (fr:=cs++ms) h).mono fun v ao ms' iK=>by refine eT iK fun b3 e ex q=>?_;exact hx (cs++ms) b3 (by exact e.symm▸List.perm_append_comm) ⟨rfl,ex,ρ,ms,rfl,rfl,bu.mono ex,q⟩))
theorem b1.glob{x:Str}{pos:Pos}{v:Value}{Q:Value->aO->G->Prop}(ok:cS sc env)(aP:B.mg x=some v)(aE:sc.lookup x=some .globalImplicit)(hd:(x==("__debug__":Str))=false)(h:Q v ρ g):b1 B n env (eval (.Name x pos) env) ρ g Q:=
 fun m cs ae ms T bu A E s R K aI F k=>Name_function_global ok.fn (ok.EX _ aE) (loadGlobal_global (ok.gl▸F.rq) aP (k v m g (cs++ms) s.heap s.toks ⟨rfl,.refl g,ρ,ms,rfl,rfl,bu,h⟩ F)) hd
theorem b1.blt{x:Str}{pos:Pos}{v:Value}{Q:Value->aO->G->Prop}(ok:cS sc env)(hm:x∈(["len","range","str","abs","isinstance","max","min","sum","list","tuple","divmod"]:List Str))(aP:bootBuiltins x=some v)(aE:sc.lookup x=some .globalImplicit)(hd:(x==("__debug__":Str))=false)(hn:x≠"__name__")(h:Q v ρ g):b1 B n env (eval (.Name x pos) env) ρ g Q:=
 fun m cs ae ms T bu A E s R K aI F k=>Name_function_global ok.fn (ok.EX _ aE) (loadGlobal_builtin (ok.gl▸F.rq) (B.free x hm) (ok.OZ▸F.zO) ((B.blt x hn).trans aP) (k v m g (cs++ms) s.heap s.toks ⟨rfl,.refl g,ρ,ms,rfl,rfl,bu,h⟩ F)) hd
theorem b1.vq{a:Addr}{o:Obj}{fd:FuncData}{first:List Value}{e:Expr}{rest:List Expr}{pos:Pos}{Q:Value->aO->G->Prop}(ho:B.fc.get? a=some o)(E8:o.data=.func fd)(he:∀env,starEach (e::rest) env=(false,eval e env)::starEach rest env)(h:b1 B n env (spliced (backTo pos (starEach (e::rest) env))) ρ g fun ae ρ' ao=>b1 B n env (call (.ref a) (first++ae)) ρ' ao Q):b1 B n env (callWith pos (.ref a) first (backTo pos (starEach (e::rest) env)) []) ρ g Q:=by
 intro m cs ae ms T bu A E s R K aI F k
 refine callWith_function (o:=o) (fd:=fd) ?_
 have aS:backTo pos (starEach (e::rest) env)=(false,eval e env)::backTo pos (starEach rest env):=by rw[he];rfl
 rw[aS]
 refine evalArgs_plain ?_
 rw[<- aS]
 exact h m cs ae ms T bu A E s R _ aI F fun ws b3 ao ms' aC t' cv cI=>by
  obtain⟨aD,ex,ρ',cr,cb,ak,d1,q⟩:=cv
  subst aD ak
  exact⟨⟨cI.cb.stays _ _ ho,E8⟩,q m cs ae cr (T.mono ex cb) d1 A E {s with heap:=aC,toks:=t'} R K aI cI fun v m₂ cH fh cz dz adO d3=>by refine adO.e fun f1 f2 bW g7 dL f4 fl jn=>?_;exact k v m₂ cH fh cz dz ⟨f1,ex.trans f2,bW,g7,dL.trans cb,f4,fl,jn⟩ d3⟩
theorem b1.se{id:String}{first:List Value}{e:Expr}{rest:List Expr}{pos:Pos}{Q:Value->aO->G->Prop}(he:∀env,starEach (e::rest) env=(false,eval e env)::starEach rest env)(bc:∀env pos,(backTo pos (starEach (e::rest) env)).any (·.1)=false)(h:b1 B n env (spliced (backTo pos (starEach (e::rest) env))) ρ g fun ae ρ' ao=>b1 B n env (call (.builtin id) (first++ae)) ρ' ao Q):b1 B n env (callWith pos (.builtin id) first (backTo pos (starEach (e::rest) env)) []) ρ g Q:=by
 intro m cs ae ms T bu A E s R K aI F k
 refine callWith_builtin (bc env pos) ?_
 have aS:backTo pos (starEach (e::rest) env)=(false,eval e env)::backTo pos (starEach rest env):=by rw[he];rfl
 refine aS.symm▸?_
 refine evalArgs_plain ?_
 refine aS▸?_
 exact h m cs ae ms T bu A E s R _ aI F fun ws b3 ao ms' aC t' cv cI=>by
  obtain⟨aD,ex,ρ',cr,cb,ak,d1,q⟩:=cv
  subst aD ak
  exact q m cs ae cr (T.mono ex cb) d1 A E {s with heap:=aC,toks:=t'} R K aI cI fun v m₂ cH fh cz dz Z5 d3=>by refine Z5.e fun f1 f2 bW g7 dL f4 fl jn=>?_;exact k v m₂ cH fh cz dz ⟨f1,ex.trans f2,bW,g7,dL.trans cb,f4,fl,jn⟩ d3
noncomputable def bg(B:bC w)(n:Nat)(r:bV)(df:List D->(D->Prop)->Prop):Prop:=∀(g:G) ds vals k,bE w g ds vals->df ds k->eG B n (call (.ref r.a) vals) g [] fun v ao Z=>Ext g ao/\∃d,Rep w ao d v/\k d
noncomputable def i2(B:bC w)(n:Nat)(r:bV)(df:List D->(O->Prop)->Prop):Prop:=∀(g:G) ds vals k,bE w g ds vals->df ds k->eG B n (call (.ref r.a) vals) g [] fun v ao ms'=>Ext g ao/\∃a o,v=.ref a/\fB w ao a o ms'/\k o
noncomputable def ix(B:bC w)(n:Nat)(r:bV)(df:List D->List D->(D->List D->Prop)->Prop):Prop:=∀(g:G) l ds vals a b2 k,fB w g a (.list l) b2->bE w g ds vals->df l ds k->
 eG B n (call (.ref r.a) (.ref a::vals)) g b2 fun v ao ms'=>Ext g ao/\∃d l',Rep w ao d v/\fB w ao a (.list l') ms'/\k d l'
structure ci(B:bC w)(r:bV)(ids:List Nat)(ext:List D)(xs:List Value):Prop where
 mem:r∈rows
 sc:mR (bd r.i).scope=true
 pn:codeOf (bd r.i).scope.names=none
 par:mJ (bd r.i).scope.names ids=true
 rep:∀g:G,bE w g ext xs
 bind:∀(g:G) (pm:Value) (s:Shared) (l:a7) (vals:List Value),bx B g l s.heap->vals.length+xs.length=ids.length->BindsTo s (fdOf r.name r.name (bd r.i) r.c r.eO pm) ⟨vals,[]⟩ ((ids.map nm).zip (vals++xs))
noncomputable def gN(ds:List D):List V:=ds.map .aX
theorem bE.app{g:G}:∀{ds bw:List D} {ae us:List Value},bE w g ds ae->bE w g bw us->bE w g (ds++bw) (ae++us):=by
 intro es
 induction es with
 | nil=>
  intro Z Z Z h aC
  subst h;exact aC
 | cons d ds eo=>
  intro Z Z Z h aC
  refine c0 h fun v r Z6 aw ai=>?_
  subst Z6
  exact dW v _ rfl aw (eo ai aC)
theorem c6.vP{g:G}:∀{ids:List Nat} {ds:List D} {ae:List Value},bE w g ds ae->ids.length=ds.length->c6 w g (ids.zip (gN ds)) ae []
 | [],[],Z,h,bt=>by exact⟨h,rfl⟩
 | i::ids,d::ds,Z,h,aF=>by
  refine c0 h fun v r Z7 aw ai=>?_
  subst Z7
  exact hy v r [] [] rfl rfl ⟨rfl,aw⟩ (c6.vP ai (by simpa using aF))
 | [],Z::bt,cD,et,h=>by simp at h
 | Z::bt,[],cD,et,h=>by simp at h
theorem vr:∀(ids:List Nat) (ni:List V) (vals:List Value),ids.length=ni.length->(ids.map nm).zip vals=((ids.zip ni).zip vals).map fun p=>(nm p.1.1,p.2)
 | [],[],Z,bt=>rfl
 | i::ids,V::ni,[],Z=>rfl
 | i::ids,V::ni,v::vals,h=>by
  rw[List.map_cons,List.zip_cons_cons,List.zip_cons_cons,List.zip_cons_cons,List.map_cons,vr ids ni vals (by simpa using h)]
 | [],Z::bt,cD,h=>by simp at h
 | Z::bt,[],cD,h=>by simp at h
theorem vB:∀(ids:List Nat) (ni:List V),ids.length=ni.length->(ids.zip ni).map (·.1)=ids
 | [],[],Z=>rfl
 | i::ids,V::ni,h=>by rw[List.zip_cons_cons,List.map_cons,vB ids ni (by simpa using h)]
 | [],Z::bt,h=>by simp at h
 | Z::bt,[],h=>by simp at h
noncomputable def sV(k:D->Prop):dM->aO->Prop:=fun a8 Z=>match a8 with
 | .cx=>k .none
 | .dv (.aX d)=>k d
 | .dv (.mt Z o)=>iL o.toD k
 | .dv (.cf Z)=>False
noncomputable def zn(k:O->Prop):dM->aO->Prop:=fun a8 Z=>match a8 with
 | .dv (.mt Z o)=>k o
 | Z=>False
noncomputable def zo(x:Nat)(a:Addr)(k:D->List D->Prop):dM->aO->Prop:=fun a8 ρ=>match a8 with
 | .dv (.aX d)=>tC (bT ρ x) fun b l=>b=a/\k d l
 | Z=>False
theorem yM{ids:List Nat}{ds:List D}:∀p∈ids.zip (gN ds),p.2.eV=false:=fun p bc=>by
 have:=(List.of_mem_zip bc).2
 refine aW (List.mem_map.mp this) fun d Z e=>?_
 refine e▸?_;rfl
theorem bg.of{r:bV}{ids:List Nat}{ext:List D}{xs:List Value}{W:bh}{df:List D->(D->Prop)->Prop}(eY:ci B r ids ext xs)(aS:SB B n (bd r.i).scope.names (bd r.i).body W)(ei:∀ds k,df ds k->ds.length+ext.length=ids.length/\W (bindAll [] (ids.zip (gN (ds++ext)))) (sV k)):bg B (n+1) r df:=by
 intro g ds vals k aA bb
 refine bS (ei ds k bb) fun aF hw=>?_
 have aE:=eY.rep g
 have eE:ids.length=(gN (ds++ext)).length:=by simp[gN,aF]
 intro A E s R K aI S b0
 refine BK (B:=B) (n:=n) eY.mem aS eY.sc (.inl eY.pn) (vals:=vals) (fA:=vals++xs) (ps:=ids.zip (gN (ds++ext))) (b2:=[]) (g:=g) (Q:=sV k) (fun pm bP l bZ=>by
   exact(vr ids _ _ eE)▸(eY.bind g pm bP l vals bZ (by exact aA.length.symm▸aE.length.symm▸aF))) (by exact(vB _ _ eE).symm▸eY.par) yM (.vP (aA.app aE) (by simp[aF])) hw A E s R K aI S fun v ao ms' aC t' ⟨ex,a8,ρ',vs',bu,hf,av⟩ bZ=>?_
 cases a8 with
 | cx=>subst hf;exact b0 _ ao ms' aC t' ⟨ex,.none,by rfl,av⟩ bZ
 | dv V=>
  cases V with
  | aX d=>exact b0 _ ao ms' aC t' ⟨ex,d,hf,av⟩ bZ
  | cf d=>exact hf.elim
  | mt a o=>
   obtain⟨rfl,x,aE⟩:=hf
   refine fq (gV bu aE) fun u m₁ m₂ aD ak bz Z=>?_
   exact aW (hq av) fun d hd av=>eT (bx.sh (l:=m₂++R) ((bZ.perm (bz.append_right R)).perm (by rw[List.append_assoc])) ak.2 hd) fun k6 e1 F5 hQ=>b0 _ k6 m₂ aC t' ⟨ex.trans e1,d,F5,av⟩ hQ
theorem i2.of{r:bV}{ids:List Nat}{ext:List D}{xs:List Value}{W:bh}{df:List D->(O->Prop)->Prop}(eY:ci B r ids ext xs)(aS:SB B n (bd r.i).scope.names (bd r.i).body W)(ei:∀ds k,df ds k->ds.length+ext.length=ids.length/\W (bindAll [] (ids.zip (gN (ds++ext)))) (zn k)):i2 B (n+1) r df:=by
 intro g ds vals k aA bb
 refine bS (ei ds k bb) fun aF hw=>?_
 have aE:=eY.rep g
 have eE:ids.length=(gN (ds++ext)).length:=by simp[gN,aF]
 intro A E s R K aI S b0
 refine BK (B:=B) (n:=n) eY.mem aS eY.sc (.inl eY.pn) (vals:=vals) (fA:=vals++xs) (ps:=ids.zip (gN (ds++ext))) (b2:=[]) (g:=g) (Q:=zn k) (fun pm bP l bZ=>by
   exact(vr ids _ _ eE)▸(eY.bind g pm bP l vals bZ (by exact aA.length.symm▸aE.length.symm▸aF))) (by exact(vB _ _ eE).symm▸eY.par) yM (.vP (aA.app aE) (by simp[aF])) hw A E s R K aI S fun v ao ms' aC t' ⟨ex,a8,ρ',vs',bu,hf,av⟩ bZ=>?_
 cases a8 with
 | cx=>exact av.elim
 | dv V=>
  cases V with
  | mt a o=>exact bS hf fun y z=>cQ z fun x aE=>fq (gV bu aE) fun u m₁ m₂ aD ak bz Z=>y▸b0 _ ao m₁ aC t' ⟨ex,a,o,rfl,ak.2,av⟩ (((bZ.perm (bz.append_right R))).sub ((List.sublist_append_left m₁ m₂).append_right R))
  | _=>exact av.elim
theorem ix.of{r:bV}{x:Nat}{ids:List Nat}{W:bh}{df:List D->List D->(D->List D->Prop)->Prop}(eY:ci B r (x::ids) [] [])(aS:SB B n (bd r.i).scope.names (bd r.i).body W)(ei:∀l ds k,df l ds k->ds.length=ids.length/\∀a,W (bindAll [] ((x,.mt a (.list l))::ids.zip (gN ds))) (zo x a k)):ix B (n+1) r df:=by
 intro g l ds vals a b2 k cW aA bb
 refine bS (ei l ds k bb) fun aF hw=>?_
 intro A E s R K aI S b0
 refine BK (B:=B) (n:=n) eY.mem aS eY.sc (.inl eY.pn) (vals:=.ref a::vals) (fA:=.ref a::vals) (ps:=(x,.mt a (.list l))::ids.zip (gN ds)) (b2:=b2) (g:=g) (Q:=zo x a k) (fun pm bP l' bZ=>by
   have:=eY.bind g pm bP l' (.ref a::vals) bZ (by simp[aA.length,aF])
   rw[List.append_nil,vr (x::ids) _ _ (show (x::ids).length=((V.mt a (.list l))::gN ds).length from by simp[gN,aF])] at this
   exact this) (by rw[List.map_cons,vB _ _ (by simp[gN,aF])];exact eY.par) (fun p bc=>by
    rcases List.mem_cons.mp bc with e|bc
    ·refine e.symm▸?_;rfl
    ·exact yM p bc) ⟨_,vals,b2,[],rfl,by simp,⟨rfl,cW⟩,.vP aA aF.symm⟩ (hw a) A E s R K aI S fun v ao ms' aC t' ⟨ex,a8,ρ',vs',bu,hf,av⟩ bZ=>?_
 cases a8 with
 | cx=>exact av.elim
 | dv V=>
  cases V with
  | aX d=>
   refine v2 av fun b l' tI z=>bS z fun y zY=>?_
   subst y
   exact fq (gV bu tI) fun u m₁ m₂ aD ak bz Z=>b0 _ ao m₁ aC t' ⟨ex,d,l',hf,ak.2,zY⟩ (((bZ.perm (bz.append_right R))).sub ((List.sublist_append_left m₁ m₂).append_right R))
  | _=>exact av.elim
noncomputable def aT(df:List D->(D->Prop)->Prop)(cj:cj):bG:=fun ρ k=>cj ρ fun ds aY=>df ds fun d=>k d aY
theorem si{r:bV}(aA:r∈rows):∃o fd,B.fc.get? r.a=some o/\o.data=.func fd:=let ⟨_,h⟩:=B.fn r aA;hx _ _ h rfl
theorem Lg{r:bV}{e:Expr}{rest:List Expr}{f:Str}{p pos:Pos}{df:List D->(D->Prop)->Prop}{cj:cj}(aA:r∈rows)(bb:bg B n r df)(hf:r.name=f)(bp:hF B n sc (e::rest) cj)(aE:sc.lookup f=some .globalImplicit)(hd:(f==("__debug__":Str))=false)(he:∀env,starEach (e::rest) env=(false,eval e env)::starEach rest env:=by intro Z;rfl):bI B n sc (.Call (.Name f p) (e::rest) [] pos) (aT df cj):=fun env ok ρ g Q h=>by
 subst hf
 refine dc (si (B:=B) aA) fun o fd aw ai=>?_
 exact .bind (.glob ok (B.nm r aA) aE hd (.vq aw ai he ((bp env ok pos ρ g _ h).mono fun ae aY bQ Z Z8=>by refine aW Z8 fun ds cJ av=>?_;exact .lT (bb bQ ds ae _ cJ av))))
end
section
variable {w:World} {B:bC w} {n:Nat} {env:Env} {ρ:aO} {g:G} {sc:List (Str×NameKind)}
noncomputable def hH(B:bC w)(n:Nat)(env:Env)(t:Sem Value)(ρ:aO)(g:G)(Q:V->aO->Prop):Prop:=
 ∀m cs ae ms,dP env m cs g ρ ae->c6 w g ρ ae ms->da B n env.locals t m g (cs++ms) fun v b3 ao ms'=>m=b3/\Ext g ao/\∃ρ' cr b2 V,du ρ'=du ρ/\ms'=cs++(cr++b2)/\c6 w ao ρ' ae cr/\jD w ao V v b2/\Q V ρ'
noncomputable abbrev mr:=aO->(V->aO->Prop)->Prop
noncomputable def pM(B:bC w)(n:Nat)(sc:List (Str×NameKind))(e:Expr)(W:mr):Prop:=∀env,cS sc env->∀ρ g Q,W ρ Q->hH B n env (eval e env) ρ g Q
theorem hH.bind{α:Type}{t:Sem α}{f:α->Sem Value}{Q:V->aO->Prop}(h:b1 B n env t ρ g fun v ρ' ao=>hH B n env (f v) ρ' ao Q):hH B n env (t>>=f) ρ g Q:=fun m cs ae ms T bu=>
 .bind ((h m cs ae ms T bu).mono fun v b3 ao ms' cv=>by
  obtain⟨aD,ak,ρ',cr,bz,b5,dQ,gh⟩:=cv
  subst aD b5
  exact(gh m cs ae cr (T.mono ak bz) dQ).mono fun FX m₂ cH fh wm=>by refine fW wm fun f1 f2 Df=>?_;refine lZ Df fun bW g7 b2 V dL z=>?_;exact EG f1 (ak.trans f2) ⟨bW,g7,b2,V,dL.trans bz,z⟩)
theorem hH.wrap{t t':Sem Value}{Q:V->aO->Prop}(e:∀A K E s,wpAny (model bD w) A t' K E s->wpAny (model bD w) A t K E s)(h:hH B n env t' ρ g Q):hH B n env t ρ g Q:=fun m cs ae ms T bu=>.wrap e (h m cs ae ms T bu)
theorem hH.standAt{p:Pos}{f:Unit->Sem Value}{Q:V->aO->Prop}(h:hH B n env (f ()) ρ g Q):hH B n env (standAt p>>=f) ρ g Q:=.wrap (fun Z Z Z Z h=>wpAny_bind (wpAny_standAt h)) h
theorem hH.of_eq{t t':Sem Value}{Q:V->aO->Prop}(e:t=t')(h:hH B n env t' ρ g Q):hH B n env t ρ g Q:=e▸h
theorem hH.lT{t:Sem Value}{Q:V->aO->Prop}(h:eG B n t g [] fun v ao ms'=>Ext g ao/\∃V,jD w ao V v ms'/\Q V ρ):hH B n env t ρ g Q:=fun m cs ae ms T bu=>
 .y5 (.C5 ((eG.frame (fr:=cs++ms) h).mono fun v ao ms' Z9=>by refine eT Z9 fun b3 e ex aac=>?_;refine aW aac fun V fu q=>?_;exact tr (cs++(ms++b3)) [] (by rw[e,List.append_nil,<- List.append_assoc cs ms b3];exact List.perm_append_comm) rfl ex ⟨ρ,ms,b3,V,rfl,rfl,bu.mono ex,fu,q⟩))
theorem eG.alloc{t:Sem Value}{o:Obj}{Q:Value->G->a7->Prop}(ht:∀(A:Around) (E:Value->Shared->Prop) (s:Shared) (K:Value->Shared->Prop),(∀t',K (.ref s.heap.objs.size) {s with heap:=s.heap.push o,toks:=t'})->wpAny (model bD w) A t K E s)(h:∀a,(∀b x,B.fc.get? b=some x->b<a)->Q (.ref a) g [(a,o)])(hf:o.isFreed=false:=by rfl):eG B n t g [] Q:=fun A E s R K aI S k=>
 ht A E s K fun t'=>k (.ref s.heap.objs.size) g [(s.heap.objs.size,o)] _ t' (h _ fun b x aE=>Heap.lt_size (S.stays _ _ aE)) (S.push o hf)
noncomputable def dV(x:Nat)(W:mr):bh:=fun ρ k=>W ρ fun V aY=>dO (i1 aY x&&!V.eV) (putK aY x V (k .cx))
theorem yN{x:Nat}{s:Str}{pos' pos:Pos}{value:Expr}{W:mr}(h:pM B n sc value W)(hs:nm x=s)(aE:eS sc s=true)(aS:x<d6.length:=by decide)(hw:∀env,swapsWith value (some (.Name s pos')) pos.line env=pure false:=by intro Z;rfl):dp B n sc (.Assign [.Name s pos'] value pos) (dV x W):=fun env ok ρ g Q aL=>by
 subst hs
 rw[exec_Assign_Name env _ pos' value pos (hw env)]
 refine .standAt ?_
 intro m cs ae ms T bu
 refine .bind ((h env ok ρ g _ aL m cs ae ms T bu).mono fun v b3 ao ms' cv=>?_)
 refine cps fun ed bR=>?_
 obtain⟨aD,ex,ρ',cr,b2,V,cb,ak,d1,fu,bb⟩:=cv
 refine bS (eu bb) fun bb av=>?_
 refine bR ?_
 clear bR
 replace av:=lM av
 obtain⟨bb,jL⟩:=Bool.and_eq_true_iff.mp bb
 subst aD ak
 refine .standAt (.bind (.wrap (fun Z Z Z Z h=>wpAny_bindName h) ((da.store ok aE aS (T.mono ex cb) d1 fu (vM bb)).mono fun Z m₂ cH fh l5=>?_)))
 refine cps fun ed bR=>?_
 obtain⟨bz,d5,vs',g7,hb,b5,jN⟩:=l5
 subst bz b5
 refine bR ?_
 clear bR
 exact .pure ⟨ex,_,d5,vs',g7,hb,rfl,jN,.cx,trivial,av⟩
noncomputable def yO(df:List D->(O->Prop)->Prop)(cj:cj):mr:=fun ρ k=>cj ρ fun ds aY=>df ds fun o=>∀a,k (.mt a o) aY
theorem hH.vq{a:Addr}{o:Obj}{fd:FuncData}{first:List Value}{e:Expr}{rest:List Expr}{pos:Pos}{Q:V->aO->Prop}(ho:B.fc.get? a=some o)(E8:o.data=.func fd)(he:∀env,starEach (e::rest) env=(false,eval e env)::starEach rest env)(h:b1 B n env (spliced (backTo pos (starEach (e::rest) env))) ρ g fun ae ρ' ao=>hH B n env (call (.ref a) (first++ae)) ρ' ao Q):hH B n env (callWith pos (.ref a) first (backTo pos (starEach (e::rest) env)) []) ρ g Q:=by
 intro m cs ae ms T bu A E s R K aI F k
 refine callWith_function (o:=o) (fd:=fd) ?_
 have aS:backTo pos (starEach (e::rest) env)=(false,eval e env)::backTo pos (starEach rest env):=by rw[he];rfl
 rw[aS]
 refine g4 fun ai3 aad=>?_
 refine evalArgs_plain ?_
 rw[<- aS]
 exact h m cs ae ms T bu A E s R _ aI F fun ws b3 ao ms' aC t' cv cI=>by
  obtain⟨aD,ex,ρ',cr,cb,ak,d1,q⟩:=cv
  subst aD ak
  refine aad _ _ ?_
  exact⟨⟨cI.cb.stays _ _ ho,E8⟩,q m cs ae cr (T.mono ex cb) d1 A E {s with heap:=aC,toks:=t'} R K aI cI fun v m₂ cH fh cz dz aae d3=>by refine fW aae fun f1 f2 WZ=>?_;refine lZ WZ fun bW g7 b2 V dL z=>?_;exact k v m₂ cH fh cz dz ⟨f1,ex.trans f2,bW,g7,b2,V,dL.trans cb,z⟩ d3⟩
theorem Vy{r:bV}{e:Expr}{rest:List Expr}{f:Str}{p pos:Pos}{df:List D->(O->Prop)->Prop}{cj:cj}(aA:r∈rows)(bb:i2 B n r df)(hf:r.name=f)(bp:hF B n sc (e::rest) cj)(aE:sc.lookup f=some .globalImplicit)(hd:(f==("__debug__":Str))=false)(he:∀env,starEach (e::rest) env=(false,eval e env)::starEach rest env:=by intro Z;rfl):pM B n sc (.Call (.Name f p) (e::rest) [] pos) (yO df cj):=fun env ok ρ g Q h=>by
 subst hf
 refine dc (si (B:=B) aA) fun o fd aw ai=>?_
 skip
 refine .bind (.glob ok (B.nm r aA) aE hd (.vq aw ai he ((bp env ok pos ρ g _ h).mono fun ae aY bQ Z W0=>aW W0 fun ds cJ av=>.lT ?_)))
 exact(bb bQ ds ae _ cJ av).mono fun v ao ms' W2=>by refine bS W2 fun ex W3=>?_;refine c0 W3 fun a o aD cW aL=>?_;exact⟨ex,.mt a o,⟨aD,cW⟩,aL a⟩
noncomputable def eH(R:cj):mr:=fun ρ k=>R ρ fun ds aY=>dO (pp ds.length) (∀a,k (.mt a (.list ds)) aY)
theorem yP{bw:List Expr}{pos:Pos}{R:cj}(h:hF B n sc bw R):pM B n sc (.List bw pos) (eH R):=fun env ok ρ g Q aL=>
 .of_eq (t':=(do PySem.standAt pos;newList (<- spliced (backTo pos (starEach bw env))))) rfl (.standAt (.bind ((h env ok pos ρ g _ aL).mono fun ae aY bQ Z W4=>by refine aW W4 fun ds cJ bb=>?_;exact .lT (.alloc (o:=lst ae) (fun A E s K k=>wpAny_newObj_type (k s.toks) (by show ae.toArray.size<=sizeLine;exact List.size_toArray.symm▸cJ.length.symm▸(h2 (m1 bb).1)))
  fun a Z=>⟨.refl _,.mt a (.list ds),⟨rfl,ae,0,rfl,cJ⟩,(m1 bb).2 a⟩))))
noncomputable def vQ:mr:=fun ρ k=>∀a,k (.mt a (.dict [] [])) ρ
noncomputable def Cd:mr:=fun ρ k=>∀a,k (.mt a (.hl [] [])) ρ
theorem IC{A:Around}{E:Value->Shared->Prop}{s:Shared}{K:Value->Shared->Prop}{pos:Pos}(h:K (.ref s.heap.objs.size) {s with heap:=s.heap.push {cls:=.type "dict",data:=.dict #[]}}):wpAny (model bD w) A (eval (.Dict [] [] pos) env) K E s:=by
 show wpAny _ _ (PySem.standAt pos>>=fun Z=>dictDisplay []) _ _ _
 refine wpAny_bind (wpAny_standAt ?_)
 exact wpAny_newObj_type h
theorem jW.empty:jW w [] {cls:=.type "dict",data:=.dict #[]}:=
 tu (#[]) 0 ⟨rfl,rfl,rfl⟩ rfl (fun Z he=>by simp at he) Pairs.nil List.nodup_nil
theorem BL(a:Addr)(h:∀b x,B.fc.get? b=some x->b<a):(a==sysModules)=false:=by
 have ai:∃o,(KF w.params).lookup 2=some o:=⟨_,rfl⟩
 obtain⟨o,ho⟩:=ai
 have:=h 2 o (B.K 2 o ho)
 exact beq_eq_false_iff_ne.mpr fun e=>by
  exact absurd (e▸this) (by decide)
theorem Vz{pos:Pos}:pM B n sc (.Dict [] [] pos) vQ:=fun env ok ρ g Q aL=>.lT (.alloc (fun A E s K k=>IC (k s.toks)) fun a bp=>⟨.refl _,.mt a (.dict [] []),⟨rfl,[],_,rfl,jW.empty,rfl,BL a bp,by rfl⟩,aL a⟩)
theorem UC{pos:Pos}:pM B n sc (.Dict [] [] pos) Cd:=fun env ok ρ g Q aL=>.lT (.alloc (fun A E s K k=>IC (k s.toks)) fun a bp=>⟨.refl _,.mt a (.hl [] []),⟨rfl,[],_,[],rfl,jW.empty,rfl,BL a bp,rfl,rfl⟩,aL a⟩)
end
section
variable {w:World} {B:bC w} {n:Nat} {env:Env} {ρ:aO} {g:G} {sc:List (Str×NameKind)}
theorem Rep.handed{d:D}{v:Value}(h:Rep w g d v):handedIn v=true:=h.cs (fun Z=>rfl) (fun Z=>rfl) (fun Z Z=>rfl) (fun Z Z=>rfl) (fun Z=>rfl)
theorem gx{l:a7}{h:Heap}(S:bx B g l h):(KF w.params).In h:=InK.keeps w B.fc h B.K S.stays
theorem aaf(P:Params):findIn (KF P) (.ref 311) "__getattribute__"=some (some (.builtin "object.__getattribute__")):=by kernel_rfl
theorem MR(P:Params):hasDictIn (KF P) 311=true:=by kernel_rfl
theorem W5(P:Params):findIn (KF P) (.ref 311) "kind"=some none:=by kernel_rfl
theorem VA(P:Params):findIn (KF P) (.ref 311) "items"=some none:=by kernel_rfl
theorem VB(P:Params):findIn (KF P) (.ref 311) "attrs"=some none:=by kernel_rfl
theorem aag(P:Params):findIn (KF P) (.ref 311) "__setattr__"=some (some (.builtin "object.__setattr__")):=by kernel_rfl
theorem W6(P:Params):plainOver (KF P) 311=true:=by kernel_rfl
theorem VC(P:Params):takerIn (KF P) 311 "kind"=some none:=by kernel_rfl
theorem VD(P:Params):takerIn (KF P) 311 "items"=some none:=by kernel_rfl
theorem Ko(P:Params):takerIn (KF P) 311 "attrs"=some none:=by kernel_rfl
theorem Kp(P:Params):takerIn (KF P) 311 "shared"=some none:=by kernel_rfl
theorem VE(P:Params):takerIn (KF P) 311 "loose"=some none:=by kernel_rfl
theorem Ce{l:a7}{h:Heap}{a bB:Addr}{dT en fk:Value}(S:bx B g l h)(aw:g a=some (Eq (instObj 311 bB)))(ai:g bB=some (xD w.params dT en fk)):
  ∃t gg lv k,InstAt h a (instObj 311 bB) 311 (some (PySem.W.dictOf (sE w.params t dT en fk gg lv) k))/\h.get? bB=some (PySem.W.dictOf (sE w.params t dT en fk gg lv) k):=by
 refine aW (S.dJ _ _ aw) fun o aD ak=>?_
 subst ak
 refine cps fun ed bR=>?_
 refine aW (S.dJ _ _ ai) fun o bz aah=>?_
 refine rp aah fun t gg lv k aai=>?_
 subst aai
 refine bR ?_
 clear bR
 exact zM t gg lv k ⟨aD,rfl,rfl,bz⟩ bz
noncomputable def gX:D->(D->Prop)->Prop:=fun d k=>match d with|.vec kd _ _=>k (.str kd)|_=>False
noncomputable def dD:D->(D->Prop)->Prop:=fun d k=>match d with|.vec _ i _=>k i|_=>False
noncomputable def gF:D->(D->Prop)->Prop:=fun d k=>match d with|.vec _ _ t=>k t|_=>False
theorem By{name:Str}{a bB:Addr}{dT en fk v:Value}{d:D}{Q:D->Prop}(aw:g a=some (Eq (instObj 311 bB)))(ai:g bB=some (xD w.params dT en fk))(bp:findIn (KF w.params) (.ref 311) name=some none)(aF:∀t gg lv,getL name (sE w.params t dT en fk gg lv)=some (some v))(aA:Rep w g d v)(aL:Q d):dB B n (getAttr (.ref a) name true) g (fun Z=>True) fun r ao=>∃d,Rep w ao d r/\Q d:=
 .of fun A E s R K aI S Z k=>by
  refine lZ (Ce S aw ai) fun t gg lv b0 bU Z=>?_
  exact get_value (gx S) bU (aaf _) (findObj_own (MR _) bp rfl (by exact aF t gg lv)) aA.handed (k v (s.toks+1) ⟨d,aA,aL⟩)
theorem W7:l3 B n (fun v=>getAttr v "kind" true) gX:=by
 intro g a u Q aA aL
 cases a <;> try exact aL.elim
 refine tp aA fun a bB dT en fk aaj aw ai aak bn bN=>?_
 subst aaj
 obtain⟨t,rfl⟩:=aak
 exact By aw ai (W5 _) (fun Z Z Z=>rfl) (by exact⟨t,rfl⟩) aL
theorem Kq:l3 B n (fun v=>getAttr v "items" true) dD:=by
 intro g a u Q aA aL
 cases a <;> try exact aL.elim
 refine tp aA fun a bB dT en fk aal aw ai aam bn bN=>?_
 subst aal
 obtain⟨t,rfl⟩:=aam
 exact By aw ai (VA _) (fun Z Z Z=>rfl) bn aL
theorem Kr:l3 B n (fun v=>getAttr v "attrs" true) gF:=by
 intro g a u Q aA aL
 cases a <;> try exact aL.elim
 refine tp aA fun a bB dT en fk aan aw ai aao bn bN=>?_
 subst aan
 obtain⟨t,rfl⟩:=aao
 exact By aw ai (VB _) (fun Z Z Z=>rfl) bN aL
theorem b1.af1{α:Type}{t:Sem α}{Q:α->G->Prop}(h:dB B n t g (fun Z=>True) Q):b1 B n env t ρ g fun v ρ' ao=>ρ=ρ'/\Q v ao:=.op (h.mono (fun Z x=>x) fun Z Z Z q=>⟨rfl,q⟩)
theorem b1.VF{value:Expr}{o r:Value}{Q:Unit->aO->G->Prop}(h:Q () ρ g):b1 B n env (letTemporaryGo value o r) ρ g Q:=.op (.of fun A E s R K aI S Z k=>wpAny_letTemporaryGo (k () s.toks h))
theorem CC{value:Expr}{attr:Str}{pos:Pos}{W:bG}{op:D->(D->Prop)->Prop}(h:bI B n sc value W)(ho:l3 B n (fun v=>getAttr v attr true) op)(aS:∀env,attributeBase value attr env (eval value env)=eval value env:=by intro Z;rfl):
  bI B n sc (.Attribute value attr pos) (aD W op):=fun env ok ρ g Q aL=>by
 refine .of_eq (t':=(do
  let o <- attributeBase value attr env (eval value env)
  PySem.standAt pos.atName
  let r <- PySem.holding [o] (getAttr o attr true)
  letTemporaryGo value o r
  pure r)) rfl ?_
 rw[aS]
 exact .bind ((h env ok ρ g _ aL).mono fun u aY bQ Z aap=>by refine aW aap fun a b8 cn=>?_;exact .standAt (.bind (.holding ((b1.af1 (ho bQ a u _ b8 cn)).mono fun r bW cH Z Dg=>by obtain⟨e,d,hd,av⟩:=Dg;exact .bind (.VF (.pure ⟨d,hd,e▸av⟩))))))
set_option tactic.hygienic true in
theorem VG{A:Around}{s:Shared}{R:Result->Shared->Prop}{x bB:Addr}{kH dY tJ:Obj}{name:Str}{dx:Tok}{v:Value}{bw:List DictEntry}{k:Nat}(X:(KF w.params).In s.heap)(bU:InstAt s.heap x kH 311 (some dY))(hd:kH.dict=some bB)(ht:takerIn (KF w.params) 311 name=some none)(aF:(lookIn name dY).isSome=true)(e:Obj.putName name (PyData.keyHash w.params name) (.str name s.toks) v dY=tJ)(eA:tJ.data=.dict bw.toArray k)(a5:bw.length<=1000)(h:∀aC,Heap.SameBut bB s.heap aC->aC.get? bB=some tJ->R (.ok (.ret .none)) {s with heap:=aC,toks:=s.toks+1}):
  codeAny (model bD w) A (.call (.builtin "object.__setattr__") ⟨[.ref x,.str name dx,v],[]⟩) R s:=by
 refine osa_open X bU (W6 _) ht fun b=>?_
 refine cps fun ed bR=>?_
 refine aW (any_some (MR w.params)) fun cd bb fj=>?_
 obtain⟨aE,jK,hn,N1⟩:=bU
 obtain⟨rN,ajs,ajt,aju⟩:=kH
 refine bR ?_
 clear bR
 dsimp only at jK hd N1
 subst jK hd
 have D:s.heap.get? bB=some dY:=N1
 have eK:tJ.isFreed=false:=by obtain⟨_,_,ug,_⟩:=tJ;cases eA;rfl
 have xL:(s.heap.update bB (Obj.putName name (PyData.keyHash w.params name) (.str name s.toks) v)).get? bB=some tJ:=by
  rw[<- e];exact Heap.get?_update_self _ D (by exact e.symm▸eK)
 refine wpAny_bind (wpAny_pure (wpAny_bind (wpAny_bind (wpAny_loadPart aE (wpAny_bind ((looks_clsIn X bb).here ?_))))))
 refine fj.symm▸?_
 refine wpAny_pure (a:=some bB) (wpAny_bind (wpAny_pure (wpAny_bind ?_)))
 refine g4 fun ai4 aaq=>?_
 refine wpAny_bind (wpAny_bind (wpAny_askSetting (wpAny_pure (wpAny_bind (wpAny_mkText (wpAny_bind (wpAny_loadPart D ?_)))))))
 unfold lookIn at aF
 split at aF
 ·rename_i N2 pF q
  rw[q]
  dsimp only
  have c:(!N2.any (·.key.isStr name)&&N2.any (·.refKey))=false:=by
   refine Array.any_toList▸Array.any_toList▸?_
   split at aF
   ·rename_i ahW he
    refine(List.any_eq_true.mpr ⟨ahW,List.mem_of_find?_eq_some he,List.find?_some he⟩).symm▸?_;rfl
   ·split at aF
    ·injection aF
    ·rename_i z;rw[Bool.not_eq_true] at z;refine z.symm▸?_;rw[Bool.and_false]
  rw[aRefKeyMayBeTheName_at,c]
  refine wpAny_updatePart D ?_
  refine aaq _ _ ?_
  refine wpAny_bind (wpAny_lookBehind xL (by exact eA.symm▸(pastItsLine_dict (by exact bO ‹_›))) ?_)
  exact wpAny_pure (h _ (Heap.SameBut.update ..) xL)
 ·injection aF
theorem Cg{A:Around}{E:Value->Shared->Prop}{s:Shared}{Q:Unit->Shared->Prop}{x bB:Addr}{kH:Obj}{name:Str}{v:Value}{bw es':List DictEntry}{k k':Nat}(X:(KF w.params).In s.heap)(bU:InstAt s.heap x kH 311 (some (PySem.W.dictOf bw k)))(hd:kH.dict=some bB)(ht:takerIn (KF w.params) 311 name=some none)(aF:(getL name bw).isSome=true)(e:(putL name (PyData.keyHash w.params name) (.str name (s.toks+1)) v bw,putN name bw k)=(es',k'))(a5:es'.length<=1000)(h:∀aC,Heap.SameBut bB s.heap aC->aC.get? bB=some (PySem.W.dictOf es' k')->Q () {s with heap:=aC,toks:=s.toks+2}):
  wpAny (model bD w) A (setAttr (.ref x) name v) Q E s:=by
 refine bS (Prod.mk.inj e) fun aD ak=>?_
 exact set_plain X bU (aag _) (VG (s:={s with toks:=s.toks+1}) X bU hd ht aF (by rw[putName_dict,aD,ak]) rfl a5 fun aC hs aC=>h _ hs aC)
theorem vz{j:Nat}{name:Str}{a:Addr}{l:List D}{b2:a7}{d:D}{v:Value}(ht:takerIn (KF w.params) 311 name=some none)(aF:l.length=j)(cW:fB w g a (.part l) b2)(aA:Rep w g d v)(adP:∀(t:Nat->Nat) (ae:List Value) (u k:Nat),ae.length=j->(getL name ((pents w.params t).zipWith (fun e v=>{e with val:=v}) ae)).isSome=true/\
   ∃k',(putL name (PyData.keyHash w.params name) (.str name u) v ((pents w.params t).zipWith (fun e v=>{e with val:=v}) ae),putN name ((pents w.params t).zipWith (fun e v=>{e with val:=v}) ae) k) =
    ((pents w.params (fun i=>if i=j then u else t i)).zipWith (fun e v=>{e with val:=v}) (ae++[v]),k')):
  eG B n (setAttr (.ref a) name v) g b2 fun Z ao b'=>Ext g ao/\fB w ao a (.part (l++[d])) b':=by
 refine lZ cW fun bB ae t k W8 jO=>?_
 subst W8
 intro A E s R K aI S b0
 obtain⟨g1,k',bc⟩:=adP t ae (s.toks+1) k (by rw[jO.length,aF])
 refine Cg (gx S) ⟨(S.own (a,instObj 311 bB) (.head _)),rfl,rfl,(S.own (bB,_) (.tail _ (.head _)))⟩ rfl ht g1 bc (by rw[List.length_zipWith];exact Nat.le_trans (Nat.min_le_left _ _) (show 5<=1000 by decide)) fun aC hs cR=>?_
 exact b0 () g _ aC (s.toks+2) ⟨.refl _,bB,ae++[v],_,k',rfl,jO.snoc aA⟩ (((S.perm (List.Perm.swap _ _ _)).update hs cR).perm (List.Perm.swap _ _ _))
theorem wn{α:Type}{l:List α}(h:l.length=1):∃a,l=[a]:=by
 match l,h with|[a],_=>exact⟨a,rfl⟩
theorem zp{α:Type}{l:List α}(h:l.length=2):∃a b,l=[a,b]:=by
 match l,h with|[a,b],_=>exact⟨a,b,rfl⟩
theorem MS{α:Type}{l:List α}(h:l.length=3):∃a b c,l=[a,b,c]:=by
 match l,h with|[a,b,c],_=>exact EL a b c rfl
theorem MT{α:Type}{l:List α}(h:l.length=4):∃a b c d,l=[a,b,c,d]:=by
 match l,h with|[a,b,c,d],_=>exact zL a b c d rfl
theorem adQ(P:Params)(v:Value)(t:Nat->Nat)(ae:List Value)(u k:Nat)(h:ae.length=0):(getL "kind" ((pents P t).zipWith (fun e v=>{e with val:=v}) ae)).isSome=true/\
   ∃k',(putL "kind" (PyData.keyHash P "kind") (.str "kind" u) v ((pents P t).zipWith (fun e v=>{e with val:=v}) ae),putN "kind" ((pents P t).zipWith (fun e v=>{e with val:=v}) ae) k) =
    ((pents P (fun i=>if i=0 then u else t i)).zipWith (fun e v=>{e with val:=v}) (ae++[v]),k'):=by
 cases ae with
 | nil=>exact⟨rfl,_,rfl⟩
 | cons Z bt=>injection h
theorem aar(P:Params)(v:Value)(t:Nat->Nat)(ae:List Value)(u k:Nat)(h:ae.length=1):(getL "items" ((pents P t).zipWith (fun e v=>{e with val:=v}) ae)).isSome=true/\
   ∃k',(putL "items" (PyData.keyHash P "items") (.str "items" u) v ((pents P t).zipWith (fun e v=>{e with val:=v}) ae),putN "items" ((pents P t).zipWith (fun e v=>{e with val:=v}) ae) k) =
    ((pents P (fun i=>if i=1 then u else t i)).zipWith (fun e v=>{e with val:=v}) (ae++[v]),k'):=by
 refine cQ (wn h) fun a W9=>?_
 subst W9;exact⟨rfl,_,rfl⟩
theorem put2(P:Params)(v:Value)(t:Nat->Nat)(ae:List Value)(u k:Nat)(h:ae.length=2):(getL "attrs" ((pents P t).zipWith (fun e v=>{e with val:=v}) ae)).isSome=true/\
   ∃k',(putL "attrs" (PyData.keyHash P "attrs") (.str "attrs" u) v ((pents P t).zipWith (fun e v=>{e with val:=v}) ae),putN "attrs" ((pents P t).zipWith (fun e v=>{e with val:=v}) ae) k) =
    ((pents P (fun i=>if i=2 then u else t i)).zipWith (fun e v=>{e with val:=v}) (ae++[v]),k'):=by
 refine iY (zp h) fun a b Xa=>?_
 subst Xa;exact⟨rfl,_,rfl⟩
theorem put3(P:Params)(v:Value)(t:Nat->Nat)(ae:List Value)(u k:Nat)(h:ae.length=3):(getL "shared" ((pents P t).zipWith (fun e v=>{e with val:=v}) ae)).isSome=true/\
   ∃k',(putL "shared" (PyData.keyHash P "shared") (.str "shared" u) v ((pents P t).zipWith (fun e v=>{e with val:=v}) ae),putN "shared" ((pents P t).zipWith (fun e v=>{e with val:=v}) ae) k) =
    ((pents P (fun i=>if i=3 then u else t i)).zipWith (fun e v=>{e with val:=v}) (ae++[v]),k'):=by
 refine tn (MS h) fun a b c Xb=>?_
 subst Xb;exact⟨rfl,_,rfl⟩
theorem adR(P:Params)(v:Value)(t:Nat->Nat)(ae:List Value)(u k:Nat)(h:ae.length=4):(getL "loose" ((pents P t).zipWith (fun e v=>{e with val:=v}) ae)).isSome=true/\
   ∃k',(putL "loose" (PyData.keyHash P "loose") (.str "loose" u) v ((pents P t).zipWith (fun e v=>{e with val:=v}) ae),putN "loose" ((pents P t).zipWith (fun e v=>{e with val:=v}) ae) k) =
    ((pents P (fun i=>if i=4 then u else t i)).zipWith (fun e v=>{e with val:=v}) (ae++[v]),k'):=by
 refine rp (MT h) fun a b c d Xc=>?_
 subst Xc;exact⟨rfl,_,rfl⟩
noncomputable def E9(j:Nat):O->D->Option O:=fun o d=>match o with
 | .part l=>if l.length=j then some (.part (l++[d])) else none
 | .vec k i Z=>if j=2 then some (.vec k i d) else none
 | Z=>none
noncomputable def ke(x:Nat)(j:Nat)(W:bG):bh:=fun ρ k=>W ρ fun d aY=>kk (bT aY x) fun a o=>iL (E9 j o d) fun bK=>k .cx (st aY x (.mt a bK))
noncomputable def sK(B:bC w)(n:Nat)(name:Str)(j:Nat):Prop:=∀(g:G) a o d v bK b2,E9 j o d=some bK->fB w g a o b2->Rep w g d v->eG B n (setAttr (.ref a) name v) g b2 fun Z ao b'=>Ext g ao/\fB w ao a bK b'
theorem oS{x:Nat}{s attr:Str}{aH aK pos:Pos}{value:Expr}{W:bG}{j:Nat}(h:bI B n sc value W)(hs:nm x=s)(aN:isVar sc s=true)(ho:sK B n attr j)(hw:∀env,swapsWith value (some (.Attribute (.Name s aH) attr aK)) pos.line env=pure false:=by intro Z;rfl):dp B n sc (.Assign [.Attribute (.Name s aH) attr aK] value pos) (ke x j W):=fun env ok ρ g Q aL=>by
 subst hs
 refine .of fun A E s R K aI S k=>plainObj_wpAny_Assign_Attribute (hs:=hw env) (b9.run (.eD (h env ok ρ g _ aL)) aI S fun v aY bQ cn ic eI cv cM=>?_)
 refine g4 fun ai5 aas=>?_
 refine aW cv fun d hd iv=>kZ iv fun a o aF iv=>aW (hq iv) fun bK hR iv=>?_
 refine b9.run (.eD (.name (Q:=fun gR ρ' ao=>gR=.ref a/\aY=ρ') ok aN aF fun gR (aP:gR=.ref a)=>⟨aP,rfl⟩)) aI cM fun gR bW cH cz dz eJ z cC=>bS z fun aD ak=>?_
 subst aD ak
 refine aas _ _ ?_
 refine b9.run (.eD (.turn (Q:=fun Z ρ' ao=>ρ'=st aY x (.mt a bK)) aF fun b aS=>(ho cH a o d v bK b hR aS (hd.mono eJ)).mono fun Z ao b' z=>bS z fun ex cW=>⟨ex,bK,cW,rfl⟩)) aI cC fun Z uh mn jp Ak m5 bz dq=>?_
 subst bz
 exact k _ _ mn jp Ak ((eI.trans eJ).trans m5) ⟨.cx,trivial,iv⟩ dq
theorem Ks:sK B n "kind" 0:=by
 intro g a o d v bK b2 hs cW aA
 cases o <;> try exact ns hs
 refine bS (ea hs) fun aF aat=>?_
 subst aat;exact vz (VC _) aF cW aA (adQ w.params v)
theorem JD:sK B n "items" 1:=by
 intro g a o d v bK b2 hs cW aA
 cases o <;> try exact ns hs
 refine bS (ea hs) fun aF aau=>?_
 subst aau;exact vz (VD _) aF cW aA (aar w.params v)
theorem T2:sK B n "shared" 3:=by
 intro g a o d v bK b2 hs cW aA
 cases o <;> try exact ns hs
 refine bS (ea hs) fun aF aav=>?_
 subst aav;exact vz (Kp _) aF cW aA (put3 w.params v)
theorem UD:sK B n "loose" 4:=by
 intro g a o d v bK b2 hs cW aA
 cases o <;> try exact ns hs
 refine bS (ea hs) fun aF aaw=>?_
 subst aaw;exact vz (VE _) aF cW aA (adR w.params v)
set_option tactic.hygienic true in
theorem JE:sK B n "attrs" 2:=by
 intro g a o d v bK b2 hs cW aA
 cases o <;> simp only[E9] at hs <;> try cases hs
 ·rename_i kd i t
  refine EE cW fun bB dT en fk dY Xd Xe a3 bn bN=>?_
  subst Xd
  refine rp Xe fun t' gg lv k Xf=>?_
  subst Xf
  intro A E s R K aI S b0
  refine Cg (es':=sE w.params t' dT en v gg lv) (k':=k) (gx S) ⟨(S.own (a,instObj 311 bB) (.head _)),rfl,rfl,(S.own (bB,_) (.tail _ (.head _)))⟩ rfl (Ko _) rfl rfl (show 5<=1000 by decide) fun aC hs cR=>?_
  exact b0 () g _ aC (s.toks+2) ⟨.refl _,bB,dT,en,v,_,rfl,zL t' gg lv k rfl,a3,bn,aA⟩ (((S.perm (List.Perm.swap _ _ _)).update hs cR).perm (List.Perm.swap _ _ _))
 ·refine bS (ea hs) fun _ Dd=>?_
  subst Dd;rename_i l aF;exact vz (Ko _) aF cW aA (put2 w.params v)
noncomputable def yQ(x:Nat):bh:=fun ρ k=>match bT ρ x with|some (.aX (.vec _ _ _))=>k .cx ρ|_=>False
set_option tactic.hygienic true in
theorem VH{x:Nat}{s:Str}{aH aK p3 pos:Pos}{b0:Nat}(hs:nm x=s)(aN:isVar sc s=true):dp B n sc (.Assign [.Attribute (.Name s aH) "shared" aK] (.Constant (.bool true) b0 p3) pos) (yQ x):=fun env ok ρ g Q aL=>by
 subst hs
 refine .of fun A E s R K aI S k=>plainObj_wpAny_Assign_Attribute (b9.run (.eD (yJ (B:=B) (n:=n) (sc:=sc) env ok ρ g (fun d ρ'=>d=.bool true/\ρ=ρ') ⟨rfl,rfl⟩)) aI S fun v aY bQ cn ic eI cv cM=>?_)
 refine g4 fun ai6 aax=>?_
 refine eT cv fun d hd aD ak=>?_
 subst aD ak
 unfold yQ at aL
 split at aL
 ·rename_i kd i t aF
  refine b9.run (.eD (.name (Q:=fun gR ρ' ao=>Rep w ao (.vec kd i t) gR/\ρ=ρ') ok aN aF fun gR aP=>⟨aP,rfl⟩)) aI cM fun gR bW cH cz dz eJ l5 cC=>?_
  obtain⟨aP,ak⟩:=l5
  subst ak
  refine cps fun ed bR=>?_
  refine tp aP fun a bB dT en fk Xg f1 f2 Xh f4 fl=>?_
  subst Xg
  obtain⟨t,rfl⟩:=Xh
  refine aW cC.lN fun l dq back=>?_
  refine lZ (Ce dq f1 f2) fun tt gg lv k' bU af2=>?_
  refine bR ?_
  clear bR
  refine aax _ _ ?_
  refine Cg (es':=sE w.params tt _ en fk v lv) (k':=k') (gx dq) bU rfl (Kp _) rfl rfl (show 5<=1000 by decide) fun aC hs cR=>?_
  exact k _ ρ cH aC _ (eI.trans eJ) ⟨.cx,trivial,aL⟩ (back cH R aC (.refl _) (dq.adv f2 hs cR ⟨tt,v,lv,k',rfl⟩))
 ·exact aL.elim
end
section
variable {w:World} {B:bC w} {n:Nat} {env:Env} {ρ:aO} {g:G} {sc:List (Str×NameKind)}
noncomputable abbrev oZ:=90
noncomputable abbrev Dh:=43
noncomputable abbrev CD:=36
noncomputable abbrev CE:=5
example:nm oZ=("self":Str)/\nm Dh=("kind":Str)/\nm CD=("items":Str)/\nm CE=("attrs":Str):=by decide +kernel
noncomputable def aay:bh:=ay (ke oZ 0 (ag Dh)) (ay (ke oZ 1 (ag CD)) (ay (ke oZ 2 (ag CE)) (ay (ke oZ 3 (au (.bool false))) (ay (ke oZ 4 (au (.bool false))) aJ))))
theorem Xi:SB B n (oX 43 0).scope.names (oX 43 0).body aay:=
 fI (oS (cZ rfl rfl) rfl rfl Ks) (fI (oS (cZ rfl rfl) rfl rfl JD) (fI (oS (cZ rfl rfl) rfl rfl JE)
  (fI (oS yJ rfl rfl T2) (fI (oS yJ rfl rfl UD) gp))))
theorem VI(P:Params):makesIn (KF P) 311=true:=by kernel_rfl
theorem Xj(P:Params):findIn (KF P) (.ref 311) "__init__"=some (some (.ref 301)):=by kernel_rfl
theorem VJ(P:Params):typeIn (KF P) (.ref 301)=some (.type "function"):=by kernel_rfl
theorem Lh(P:Params):keepIn (KF P) (.ref 311)=true:=by kernel_rfl
theorem VK:B.fc.get? 301=some (jw "__init__" "Vector.__init__" (oX 43 0) 300 (.ref 294) (.str "vectorcove.values" 547)):=B.K 301 _ (by rfl)
theorem VL:B.fc.CodeRec (.ref 300) "Vector.__init__":=hy 300 _ _ 593 rfl (B.K 300 _ (by rfl)) rfl rfl
theorem JF:B.fc.get? 294=some {cls:=.type "tuple",data:=.seq #[.none]}:=B.K 294 _ (by rfl)
noncomputable def adS(a:Addr)(k:List D->Prop):dM->aO->Prop:=fun a8 ρ=>match a8 with
 | .cx=>kk (bT ρ oZ) fun b o=>match o with|.part l=>b=a/\k l|_=>False
 | Z=>False
theorem T3{vals fA:List Value}{a:Addr}{b2:a7}{k i t:D}(cW:fB w g a (.part []) b2)(aA:bE w g [k,i,t] fA)(aP:fA=vals∨fA=vals++[.none]):
  E7 B (n+1) 301 (.ref a::vals) g b2 fun v ao ms'=>Ext g ao/\v=.none/\fB w ao a (.part [k,i,t,.bool false,.bool false]) ms':=by
 intro A E s R K aI S b0
 have c:=code_defG (B:=B) (n:=n) (fa:=301) ⟨_,VK⟩ VL Xi (by rfl) (.inl (by rfl)) (vals:=.ref a::vals) (fA:=.ref a::fA) (ps:=[(oZ,.mt a (.part [])),(Dh,.aX k),(CD,.aX i),(CE,.aX t)]) (b2:=b2) (g:=g)
  (Q:=adS a fun l=>l=[k,i,t,.bool false,.bool false]) (fun pm bP l bZ=>?_) (by rfl) (by intro p bc;simp at bc;rcases bc with rfl|rfl|rfl|rfl <;> rfl) ?_ ?_
 ·refine c A E s R K aI S fun v ao ms' aC t' cv bZ=>?_
  refine cps fun ed bR=>?_
  obtain⟨ex,a8,ρ',vs',bu,hf,av⟩:=cv
  refine bR ?_
  clear bR
  cases a8 with
  | dv V=>exact av.elim
  | cx=>
   refine kZ av fun b o tI av=>?_
   cases o with
   | part l=>
    refine bS av fun jq fG=>?_
    subst jq fG
    exact fq (gV bu tI) fun u m₁ m₂ aD ak bz Z=>b0 _ ao m₁ aC t' ⟨ex,hf,ak.2⟩ (((bZ.perm (bz.append_right R))).sub ((List.sublist_append_left m₁ m₂).append_right R))
   | _=>exact av.elim
 ·unfold bE at aA;obtain⟨dT,r,rfl,av,aA⟩:=aA
  unfold bE at aA;obtain⟨en,r,rfl,aN,aA⟩:=aA
  unfold bE at aA;obtain⟨ox,r,rfl,ht,aA⟩:=aA
  unfold bE at aA;subst aA
  rcases aP with rfl|aP
  ·exact .of_defaults rfl (bZ.stays _ _ JF) rfl rfl rfl
  ·match vals,aP with
   | [ajv,ajw],aP=>
    cases aP
    exact .of_defaults rfl (bZ.stays _ _ JF) rfl rfl rfl
   | [],aP=>cases aP
   | [Z],aP=>cases aP
   | _::_::_::_,aP=>simp at aP
 ·unfold bE at aA;obtain⟨dT,r,rfl,av,aA⟩:=aA
  unfold bE at aA;obtain⟨en,r,rfl,aN,aA⟩:=aA
  unfold bE at aA;obtain⟨ox,r,rfl,ht,aA⟩:=aA
  unfold bE at aA;subst aA
  exact hy _ _ b2 [] rfl (by simp) ⟨rfl,cW⟩ ⟨_,_,[],[],rfl,rfl,⟨rfl,av⟩,_,_,[],[],rfl,rfl,⟨rfl,aN⟩,_,_,[],[],rfl,rfl,⟨rfl,ht⟩,rfl,rfl⟩
 ·exact⟨rfl,rfl⟩
theorem Kt{A:Around}{a:Addr}{ae:List Value}(h:dk (n+1) A):dk n (A.under (.builtin "type.__call__" ⟨.ref a::ae,[]⟩)):=by
 refine fW h fun aw ai a3=>?_
 have aD:(A.under (.builtin "type.__call__" ⟨.ref a::ae,[]⟩)).depth=A.depth+1:=by
  show A.depth+Code.weight (.builtin "type.__call__" ⟨.ref a::ae,[]⟩)=A.depth+1
  rw[(show Code.weight (.builtin "type.__call__" ⟨.ref a::ae,[]⟩)=1 from by kernel_rfl)]
 have ak:(A.under (.builtin "type.__call__" ⟨.ref a::ae,[]⟩)).units=A.units+1:=by
  show A.units+Code.cUnits (.builtin "type.__call__" ⟨.ref a::ae,[]⟩)=A.units+1
  rw[(show Code.cUnits (.builtin "type.__call__" ⟨.ref a::ae,[]⟩)=1 from by kernel_rfl)]
 exact⟨aw,by lia,by lia⟩
theorem JG{ds:List D}{vals:List Value}{k:Str}{i t:D}(aA:bE w g ds vals)(hd:(ds=[.str k,i]/\t=.none)∨ds=[.str k,i,t]):
  eG B (n+2) (call (.ref 311) vals) g [] fun v ao ms'=>Ext g ao/\∃a,v=.ref a/\fB w ao a (.vec k i t) ms':=by
 intro A E s R K aI S b0
 obtain⟨h,gs,d,dx,os⟩:=s
 refine wpAny_call (make_core (makes_of (gx S) (VI _)) (looks_findIn (gx S) (Xj _)) (fun self=>bind_fn (gx S) self (VJ _)) (.inl rfl) ?_)
 have cC:=(S.push emptyDict).push (instObj 311 h.objs.size)
 have e:(h.push emptyDict).objs.size=h.objs.size+1:=Heap.size_push ..
 rw[e] at cC
 have aS:∃fA,bE w g [.str k,i,t] fA/\(fA=vals∨fA=vals++[.none]):=by
  rcases hd with⟨rfl,rfl⟩|rfl
  ·exact⟨vals++[.none],aA.snoc (by rfl),.inr rfl⟩
  ·exact⟨vals,aA,.inl rfl⟩
 refine aW aS fun fA w5 w6=>?_
 refine codeAny_mono (T3 (n:=n) (zM h.objs.size [] (fun Z=>0) 0 rfl (by rfl)) w5 w6 _ E _ R (fun v bP=>v=.none/\K (.ref (h.objs.size+1)) bP) (Kt aI) cC fun v ao ms' aC t' Xk bZ=>fW Xk fun ex aP rB=>⟨aP,?_⟩) ?_
 ·refine b0 _ ao ms' aC t' ⟨ex,_,rfl,?_⟩ bZ
  obtain⟨bB,ae,t',Fa,rfl,jO⟩:=rB
  obtain⟨dT,r,rfl,av,jO⟩:=jO
  refine dc jO fun en r Xl Xm=>?_
  subst Xl
  obtain⟨aN,jO⟩:=Xm
  refine dc jO fun ox r aaz aaA=>?_
  subst aaz
  obtain⟨ht,jO⟩:=aaA
  refine dc jO fun gg r Xn Xo=>?_
  subst Xn
  obtain⟨ajx,jO⟩:=Xo
  refine dc jO fun lv r Xp Xq=>?_
  subst Xp
  obtain⟨ajy,jO⟩:=Xq
  subst jO
  exact EQ bB dT en ox _ rfl ⟨t',gg,lv,Fa,rfl⟩ av aN ht
 ·intro r bP a5
  rcases r with e|(v|_|_|_)
  ·exact a5
  ·exact a5.elim
  ·exact a5.elim
  ·exact a5.elim
  ·exact a5
end
section
variable {w:World} {B:bC w} {n:Nat} {env:Env} {ρ:aO} {g:G} {sc:List (Str×NameKind)}
theorem b1.Bz{f:Value}{first:List Value}{e:Expr}{rest:List Expr}{pos:Pos}{Q:Value->aO->G->Prop}(av:keepIn (KF w.params) f=true)(he:∀env,starEach (e::rest) env=(false,eval e env)::starEach rest env)(bc:∀env pos,(backTo pos (starEach rest env)).any (·.1)=false)(h:b1 B n env (spliced (backTo pos (starEach (e::rest) env))) ρ g fun ae ρ' ao=>b1 B n env (call f (first++ae)) ρ' ao Q):b1 B n env (callWith pos f first (backTo pos (starEach (e::rest) env)) []) ρ g Q:=by
 intro m cs ae ms T bu A E s R K aI F k
 refine callWith_K (h₀:=B.fc) B.K av (he:=he env) (hplain:=bc env pos) ?_
 exact h m cs ae ms T bu A E s R _ aI F fun ws b3 ao ms' aC t' cv cI=>by
  obtain⟨aD,ex,ρ',cr,cb,ak,d1,q⟩:=cv
  subst aD ak
  exact⟨gx cI.cb,q m cs ae cr (T.mono ex cb) d1 A E {s with heap:=aC,toks:=t'} R K aI cI fun v m₂ cH fh cz dz wm d3=>by refine wm.e fun f1 f2 bW g7 dL f4 fl jn=>?_;exact k v m₂ cH fh cz dz ⟨f1,ex.trans f2,bW,g7,dL.trans cb,f4,fl,jn⟩ d3⟩
theorem hH.Bz{f:Value}{first:List Value}{e:Expr}{rest:List Expr}{pos:Pos}{Q:V->aO->Prop}(av:keepIn (KF w.params) f=true)(he:∀env,starEach (e::rest) env=(false,eval e env)::starEach rest env)(bc:∀env pos,(backTo pos (starEach rest env)).any (·.1)=false)(h:b1 B n env (spliced (backTo pos (starEach (e::rest) env))) ρ g fun ae ρ' ao=>hH B n env (call f (first++ae)) ρ' ao Q):hH B n env (callWith pos f first (backTo pos (starEach (e::rest) env)) []) ρ g Q:=by
 intro m cs ae ms T bu A E s R K aI F k
 refine callWith_K (h₀:=B.fc) B.K av (he:=he env) (hplain:=bc env pos) ?_
 exact h m cs ae ms T bu A E s R _ aI F fun ws b3 ao ms' aC t' cv cI=>by
  obtain⟨aD,ex,ρ',cr,cb,ak,d1,q⟩:=cv
  subst aD ak
  exact⟨gx cI.cb,q m cs ae cr (T.mono ex cb) d1 A E {s with heap:=aC,toks:=t'} R K aI cI fun v m₂ cH fh cz dz aaB d3=>by refine fW aaB fun f1 f2 aaC=>?_;refine lZ aaC fun bW g7 b2 V dL z=>?_;exact k v m₂ cH fh cz dz ⟨f1,ex.trans f2,bW,g7,b2,V,dL.trans cb,z⟩ d3⟩
noncomputable def D3:List D->Option (Str×D×D)
 | [a,i]=>iG (fun k=>some (k,i,.none)) a
 | [a,i,t]=>iG (fun k=>some (k,i,t)) a
 | Z=>none
theorem Ku{ds:List D}{k:Str}{i t:D}(h:D3 ds=some (k,i,t)):(ds=[.str k,i]/\t=.none)∨ds=[.str k,i,t]:=by
 rcases ds with _|⟨a,_|⟨b,_|⟨c,_|⟨d,r⟩⟩⟩⟩
 ·exact ns h
 ·exact ns h
 ·exact aW (Lb h) fun s y e=>.inl (by cases y;cases e;exact⟨rfl,rfl⟩)
 ·exact aW (Lb h) fun s y e=>.inr (by cases y;cases e;rfl)
 ·exact ns h
noncomputable abbrev D4(o:Option (Str×D×D))(k:Str->D->D->Prop):Prop:=match o with|some (a,b,c)=>k a b c|none=>False
theorem Li{o:Option (Str×D×D)}{k:Str->D->D->Prop}{P:Prop}(h:D4 o k)(b0:∀a b c,o=some (a,b,c)->k a b c->P):P:=by
 cases o with
 | none=>exact h.elim
 | some z=>exact b0 z.1 z.2.1 z.2.2 rfl h
noncomputable def hC(cj:cj):bG:=fun ρ k=>cj ρ fun ds aY=>D4 (D3 ds) fun kd i t=>k (.vec kd i t) aY
noncomputable def w7(cj:cj):mr:=fun ρ k=>cj ρ fun ds aY=>D4 (D3 ds) fun kd i t=>∀a,k (.mt a (.vec kd i t)) aY
theorem adT{e:Expr}{rest:List Expr}{p pos:Pos}{cj:cj}(bp:hF B (n+2) sc (e::rest) cj)(aE:sc.lookup ("Vector":Str)=some .globalImplicit)(he:∀env,starEach (e::rest) env=(false,eval e env)::starEach rest env:=by intro Z;rfl)(bc:∀env pos,(backTo pos (starEach rest env)).any (·.1)=false:=by intro Z Z;rfl):bI B (n+2) sc (.Call (.Name "Vector" p) (e::rest) [] pos) (hC cj):=fun env ok ρ g Q h=>by
 skip
 refine .bind (.glob ok B.vec aE (by rfl) (.Bz (Lh _) he bc ((bp env ok pos ρ g _ h).mono fun ae aY bQ Z cv=>?_)))
 refine aW cv fun ds cJ av=>Li av fun kd i t hm av=>.lT fun A E s R K aI S k=>JG cJ (Ku hm) A E s R K aI S fun v ao ms' aC t' z bZ=>?_
 exact bS z fun ex z=>aW z fun a aD cW=>eT (bx.sh (d:=.vec kd i t) bZ cW rfl) fun k6 e1 F5 hQ=>k v k6 [] aC t' ⟨ex.trans e1,_,aD▸F5,av⟩ hQ
theorem adU{e:Expr}{rest:List Expr}{p pos:Pos}{cj:cj}(bp:hF B (n+2) sc (e::rest) cj)(aE:sc.lookup ("Vector":Str)=some .globalImplicit)(he:∀env,starEach (e::rest) env=(false,eval e env)::starEach rest env:=by intro Z;rfl)(bc:∀env pos,(backTo pos (starEach rest env)).any (·.1)=false:=by intro Z Z;rfl):pM B (n+2) sc (.Call (.Name "Vector" p) (e::rest) [] pos) (w7 cj):=fun env ok ρ g Q h=>by
 skip
 refine .bind (.glob ok B.vec aE (by rfl) (.Bz (Lh _) he bc ((bp env ok pos ρ g _ h).mono fun ae aY bQ Z z=>?_)))
 exact aW z fun ds cJ av=>Li av fun kd i t hm av=>.lT ((JG cJ (Ku hm)).mono fun v ao ms' z=>bS z fun ex z=>aW z fun a aD cW=>⟨ex,.mt a (.vec kd i t),⟨aD,cW⟩,av a⟩)
noncomputable def mv(B:bC w)(n:Nat)(sc:List (Str×NameKind))(e:Expr)(W:bh):Prop:=∀env,cS sc env->∀ρ g Q,W ρ Q->b9 B n env (eval e env>>=fun v=>pure (.ret v)) ρ g fun f ρ' ao=>∃a8,rt w ao ρ' a8 f/\Q a8 ρ'
theorem N3{e:Expr}{W:bG}(h:bI B n sc e W):mv B n sc e (bJ W):=fun env ok ρ g Q aL=>.bind (.mono (.eD (h env ok ρ g _ aL)) fun v aY bQ Z aaD=>by refine aW aaD fun d hd av=>?_;exact .pure ⟨.dv (.aX d),hd,av⟩)
theorem af3{x:Nat}{s:Str}{pos:Pos}(hs:nm x=s)(aN:isVar sc s=true):mv B n sc (.Name s pos) (jx x):=fun env ok ρ g Q aL=>by
 subst hs
 exact kZ aL fun a o aF aL=>.bind (.eD (.name ok aN aF fun v (aP:v=.ref a)=>.pure ⟨.dv (.mt a o),⟨aP,x,aF⟩,aL⟩))
theorem adV{test body orelse:Expr}{pos:Pos}{T:db}{U V:bh}(ht:ST B n sc test T)(aS:mv B n sc body U)(he:mv B n sc orelse V):mv B n sc (.IfExp test body orelse pos) (bF T U V):=fun env ok ρ g Q aL=>by
 refine .of_eq (t':=(isTrue test env (eval test env)>>=fun b=>(if b then eval body env else eval orelse env)>>=fun v=>pure (.ret v))) ?_ ?_
 ·show ((isTrue test env (eval test env)>>=fun b=>if b then eval body env else eval orelse env)>>=_)=_
  rw[bind_assoc]
 ·exact .bind (.mono (.eD (ht env ok ρ g _ aL)) fun b aY bQ Z cn=>by
   cases b
   ·exact he env ok aY bQ _ cn
   ·exact aS env ok aY bQ _ cn)
theorem Xr{e:Expr}{pos:Pos}{W:bh}(h:mv B n sc e W):dp B n sc (.Return (some e) pos) W:=fun env ok ρ g Q aL=>by
 exact .standAt (h env ok ρ g Q aL)
noncomputable def gG(x:Nat)(df:List D->List D->(D->List D->Prop)->Prop)(cj:cj):bG:=fun ρ k=>kk (bT ρ x) fun a Z=>cj ρ fun ds aY=>tC (bT aY x) fun b l=>b=a/\df l ds fun d l'=>k d (st aY x (.mt b (.list l')))
theorem Kv{r:bV}{x:Nat}{s:Str}{rest:List Expr}{f:Str}{p dZ pos:Pos}{df:List D->List D->(D->List D->Prop)->Prop}{cj:cj}(aA:r∈rows)(bb:ix B n r df)(hf:r.name=f)(hs:nm x=s)(aN:isVar sc s=true)(bp:hF B n sc rest cj)(aE:sc.lookup f=some .globalImplicit)(hd:(f==("__debug__":Str))=false)(he:∀env,starEach (.Name s dZ::rest) env=(false,eval (.Name s dZ) env)::starEach rest env:=by intro Z;rfl):
  bI B n sc (.Call (.Name f p) (.Name s dZ::rest) [] pos) (gG x df cj):=fun env ok ρ g Q h=>by
 subst hf hs
 refine dc (si (B:=B) aA) fun o fd aw ai=>?_
 skip
 refine kZ h fun a aj3 aF h=>.bind (.glob ok (B.nm r aA) aE hd (.vq aw ai he ?_))
 refine .of_eq (t':=(do
  let v <- eval (.Name (nm x) dZ) env
  let here <- (Pure.pure [v]:Sem (List Value))
  return here++(<- PySem.holding here (spliced (backTo pos (starEach rest env)))))) rfl ?_
 refine .bind (.name ok aN aF fun v (aP:v=.ref a)=>.bind (.pure (.bind (.holding ((bp env ok pos ρ g _ h).mono fun ae aY bQ Z z=>aW z fun ds cJ av=>.pure ?_)))))
 subst aP
 refine v2 av fun b l kr dH=>bS dH fun y bt=>?_
 subst y
 exact .turn kr fun b2 cW=>(bb bQ l ds ae _ b2 _ cW cJ bt).mono fun v ao ms' z=>bS z fun ex z=>c0 z fun d l' hd rB aL=>⟨ex,.list l',rB,d,hd,aL⟩
noncomputable def MU:D->Option String
 | .list Z=>some "list"|.tup _=>some "tuple"|.dict _ _=>some "dict"|.str _=>some "str"|.int _=>some "int"|_=>none
noncomputable def N4:D->Nat|.list _=>0|.tup _=>1|.dict _ _=>2|.str _=>3|.int _=>4|_=>5
noncomputable def Fb:Nat->String|0=>"list"|1=>"tuple"|2=>"dict"|3=>"str"|_=>"int"
theorem aaE{d:D}{j:Nat}(h:(N4 d==j)=true)(bL:j<5):MU d=some (Fb j):=by
 obtain rfl:=beq_iff_eq.mp h
 cases d <;> first|rfl|exact absurd bL (Nat.lt_irrefl 5)
theorem Rep.ty{d:D}{v:Value}{T:String}{l:a7}{s:Shared}(h:Rep w g d v)(ht:MU d=some T)(S:bx B g l s.heap):s.TypeIs v T/\∀a,v=.ref a->∃f7,s.heap.get? a=some f7/\f7.dict=none:=by
 cases d <;> first|exact ns ht|cases ht
 ·obtain⟨t,rfl⟩:=h;exact⟨typeIs_int _ _ _,fun Z e=>by cases e⟩
 ·obtain⟨t,rfl⟩:=h;exact⟨typeIs_str _ _ _,fun Z e=>by cases e⟩
 ·refine dc h fun a ae aaF aaG=>?_;subst aaF;refine bS aaG fun aw ai=>?_
  refine cQ (S.dJ _ _ aw) fun o Di=>?_
  obtain⟨aD,ak⟩:=Di;cases ak
  exact⟨⟨_,aD,rfl⟩,fun a e=>by cases e;exact⟨_,aD,rfl⟩⟩
 ·refine iY h fun a ae aaH=>?_
  refine fW aaH fun aaI aw ai=>?_
  subst aaI
  refine cQ (S.dJ _ _ aw) fun o aaJ=>?_
  obtain⟨aD,k,rfl⟩:=aaJ
  exact⟨⟨_,aD,rfl⟩,fun a e=>by cases e;exact⟨_,aD,rfl⟩⟩
 ·refine fq h fun a ae o aaK aw ai a3=>?_;subst aaK
  refine aW (S.dJ _ _ aw) fun o aD ak=>?_;subst ak
  refine dc ai fun bw ep q Z=>?_
  exact⟨⟨_,aD,q.1⟩,fun a e=>by injection e with e;subst e;exact⟨_,aD,q.2.1⟩⟩
theorem b1.zq{o:Expr}{name:Str}{apos pos:Pos}{args:List Expr}{T id:String}{Q:Value->aO->G->Prop}(nV:attributeBase o name env (eval o env)=eval o env)(rh:((backTo pos (starEach args env)).all (fun x=>!x.1)&&(backToKw pos (keywordEach [] env)).all (fun x=>x.1.isSome)
   && decide (args.length+([]:List Keyword).length+(if ([]:List Keyword).isEmpty then 0 else 1)<30))=true)(hline:(apos.endLine==pos.line)=true)(xM:PlainAttrs T)(slot:Slot T name id)(m6:typeOf (.builtin id)=(Pure.pure (Value.type "method_descriptor"):Sem Value))(h:b1 B n env (eval o env) ρ g fun gR ρ' ao=>(∀ae ms (s:Shared) l,c6 w ao ρ' ae ms->(∀q∈ms,s.heap.get? q.1=some q.2)->bx B ao l s.heap->s.TypeIs gR T/\∀a,gR=.ref a->∃f7,s.heap.get? a=some f7/\f7.dict=none)/\
   b1 B n env (callWith pos (.builtin id) [gR] (backTo pos (starEach args env)) []) ρ' ao Q):b1 B n env (eval (.Call (.Attribute o name apos) args [] pos) env) ρ g Q:=by
 intro m cs ae ms hb bu A E s R K aI F k
 refine wpAny_Call_method nV rh hline xM slot m6 ?_
 exact h m cs ae ms hb bu A E s R _ aI F fun gR b3 ao ms' aC t' cv cI=>by
  obtain⟨aD,ex,ρ',cr,cb,ak,d1,gA,cK⟩:=cv
  subst aD ak
  refine bS (gA ae cr {s with heap:=aC,toks:=t'} _ d1 (fun q aL=>cI.cb.own q (by simp[aL])) cI.cb) fun a1 a2=>?_
  exact⟨a1,a2,cK m cs ae cr (hb.mono ex cb) d1 A E {s with heap:=aC,toks:=t'} R K aI cI fun v m₂ cH fh cz dz Xs d3=>by refine Xs.e fun f1 f2 bW g7 dL f4 fl jn=>?_;exact k v m₂ cH fh cz dz ⟨f1,ex.trans f2,bW,g7,dL.trans cb,f4,fl,jn⟩ d3⟩
structure m7(B:bC w)(n:Nat)(name:Str)(T:String)(W:D->List D->(D->Prop)->Prop):Prop where
 run:∃id,PlainAttrs T/\Slot T name id/\typeOf (.builtin id)=pure (.type "method_descriptor")/\∀(g:G) d ds u ae Q,Rep w g d u->bE w g ds ae->W d ds Q->dB B n (call (.builtin id) (u::ae)) g (fun Z=>True) fun r ao=>∃d,Rep w ao d r/\Q d
noncomputable def iF(Al:bG)(j:Nat)(cj:cj)(op:D->List D->(D->Prop)->Prop):bG:=fun ρ k=>Al ρ fun d aY=>dO (N4 d==j) (cj aY fun ds bW=>op d ds fun r=>k r bW)
theorem vR{o e:Expr}{rest:List Expr}{name:Str}{apos pos:Pos}{j:Nat}{Al:bG}{cj:cj}{op:D->List D->(D->Prop)->Prop}(ho:bI B n sc o Al)(bp:hF B n sc (e::rest) cj)(hm:m7 B n name (Fb j) op)(bL:j<5:=by decide)(hline:(apos.endLine==pos.line)=true:=by rfl)(nV:∀env,attributeBase o name env (eval o env)=eval o env:=by intro Z;rfl)(rh:∀env,((backTo pos (starEach (e::rest) env)).all (fun x=>!x.1)&&(backToKw pos (keywordEach [] env)).all (fun x=>x.1.isSome)
   && decide ((e::rest).length+([]:List Keyword).length+(if ([]:List Keyword).isEmpty then 0 else 1)<30))=true:=by intro Z;rfl)(he:∀env,starEach (e::rest) env=(false,eval e env)::starEach rest env:=by intro Z;rfl)(bc:∀env pos,(backTo pos (starEach (e::rest) env)).any (·.1)=false:=by intro Z Z;rfl):
  bI B n sc (.Call (.Attribute o name apos) (e::rest) [] pos) (iF Al j cj op):=fun env ok ρ g Q aL=>by
 refine ro hm.run fun id xM slot m6 run=>?_
 refine .zq (nV env) (rh env) hline xM slot m6 ((ho env ok ρ g _ aL).mono fun u aY bQ Z Xu=>aW Xu fun d hd ht=>⟨fun Z Z s l Z Z S=>hd.ty (aaE (eu ht).1 bL) S,?_⟩)
 exact .se he bc ((bp env ok pos aY bQ _ (eu ht).2).mono fun ae bW cH ex Xv=>by refine aW Xv fun ds cJ cz=>?_;exact .op (run cH d ds u ae _ (hd.mono ex) cJ cz))
structure od(B:bC w)(n:Nat)(name:Str)(W:List D->List D->(D->List D->Prop)->Prop):Prop where
 run:∃id,Slot "list" name id/\typeOf (.builtin id)=pure (.type "method_descriptor")/\∀(g:G) a l ds ae b2 Q,fB w g a (.list l) b2->bE w g ds ae->W l ds Q->
  eG B n (call (.builtin id) (.ref a::ae)) g b2 fun r ao b'=>Ext g ao/\∃d l',Rep w ao d r/\fB w ao a (.list l') b'/\Q d l'
noncomputable def dS(x:Nat)(cj:cj)(op:List D->List D->(D->List D->Prop)->Prop):bG:=fun ρ k=>match bT ρ x with
 | some (.mt a (.list Z))=>cj ρ fun ds aY=>(match bT aY x with
  | some (.mt b (.list l))=>b=a/\op l ds fun d l'=>k d (st aY x (.mt b (.list l')))
  | Z=>False)
 | Z=>False
theorem L5{x:Nat}{a:Addr}{l:List D}(aF:bT ρ x=some (.mt a (.list l))):∀ae ms (s:Shared) (F6:a7),c6 w g ρ ae ms->(∀q∈ms,s.heap.get? q.1=some q.2)->bx B g F6 s.heap->s.TypeIs (.ref a) "list"/\∀b,Value.ref a=.ref b->∃f7,s.heap.get? b=some f7/\f7.dict=none:=by
 intro ae ms s F6 bu hm Z
 refine fq (gV bu aF) fun v m₁ m₂ aD Xw bz Z=>?_
 obtain⟨ak,us,k,b5,dQ⟩:=Xw
 subst b5
 have:=hm (a,lst us k) (bz.mem_iff.mpr (.head _))
 exact⟨⟨_,this,rfl⟩,fun b e=>by injection e with e;subst e;exact⟨_,this,rfl⟩⟩
set_option tactic.hygienic true in
theorem Dj{x:Nat}{s:Str}{e:Expr}{rest:List Expr}{name:Str}{p apos pos:Pos}{cj:cj}{op:List D->List D->(D->List D->Prop)->Prop}(hs:nm x=s)(aN:isVar sc s=true)(bp:hF B n sc (e::rest) cj)(hm:od B n name op)(hline:(apos.endLine==pos.line)=true:=by rfl)(nV:∀env,attributeBase (.Name s p) name env (eval (.Name s p) env)=eval (.Name s p) env:=by intro Z;rfl)(rh:∀env,((backTo pos (starEach (e::rest) env)).all (fun x=>!x.1)&&(backToKw pos (keywordEach [] env)).all (fun x=>x.1.isSome)
   && decide ((e::rest).length+([]:List Keyword).length+(if ([]:List Keyword).isEmpty then 0 else 1)<30))=true:=by intro Z;rfl)(he:∀env,starEach (e::rest) env=(false,eval e env)::starEach rest env:=by intro Z;rfl)(bc:∀env pos,(backTo pos (starEach (e::rest) env)).any (·.1)=false:=by intro Z Z;rfl):
  bI B n sc (.Call (.Attribute (.Name s p) name apos) (e::rest) [] pos) (dS x cj op):=fun env ok ρ g Q aL=>by
 refine eT hm.run fun id slot m6 run=>?_
 subst hs
 unfold dS at aL
 split at aL
 ·rename_i a Am aF
  refine .zq (nV env) (rh env) hline F.plainAttrs_list slot m6 (.name ok aN aF fun v (aP:v=.ref a)=>?_)
  subst aP
  refine⟨L5 aF,.se he bc ((bp env ok pos ρ g _ aL).mono fun ae bW cH ex ⟨ds,cJ,cz⟩=>?_)⟩
  split at cz
  ·rename_i b l kr
   obtain⟨rfl,av⟩:=cz
   exact .turn kr fun b2 cW=>(run cH _ l ds ae b2 _ cW cJ av).mono fun v ao ms' Xx=>by refine bS Xx fun ex Xy=>?_;refine c0 Xy fun d l' hd rB aL=>?_;exact⟨ex,.list l',rB,d,hd,aL⟩
  ·exact cz.elim
 ·exact aL.elim
set_option tactic.hygienic true in
theorem Xz{x:Nat}{s:Str}{name:Str}{p apos pos:Pos}{op:List D->List D->(D->List D->Prop)->Prop}(hs:nm x=s)(aN:isVar sc s=true)(hm:od B n name op)(hline:(apos.endLine==pos.line)=true:=by rfl)(nV:∀env,attributeBase (.Name s p) name env (eval (.Name s p) env)=eval (.Name s p) env:=by intro Z;rfl):
  bI B n sc (.Call (.Attribute (.Name s p) name apos) [] [] pos) (dS x az op):=fun env ok ρ g Q aL=>by
 refine eT hm.run fun id slot m6 run=>?_
 subst hs
 unfold dS at aL
 split at aL
 ·rename_i a Am aF
  refine .zq (nV env) rfl hline F.plainAttrs_list slot m6 (.name ok aN aF fun v (aP:v=.ref a)=>?_)
  subst aP
  refine⟨L5 aF,?_⟩
  unfold az at aL
  dsimp only at aL
  split at aL
  ·rename_i b l kr
   obtain⟨rfl,av⟩:=aL
   have t:b1 B n env (call (.builtin id) [.ref b]) ρ g fun v ρ' ao=>∃d,Rep w ao d v/\Q d ρ':=
    .turn kr fun b2 cW=>(run g _ l [] [] b2 _ cW (by rfl) av).mono fun v ao ms' XA=>by refine bS XA fun ex Dk=>?_;refine c0 Dk fun d l' hd rB aL=>?_;exact⟨ex,.list l',rB,d,hd,aL⟩
   intro m cs ae ms T bu A E s R K aI F k
   exact callWith_builtin rfl (PySem.evalArgs_none (t m cs ae ms T bu A E s R K aI F k))
  ·exact aL.elim
 ·exact aL.elim
end
section
variable {w:World} {B:bC w} {n:Nat} {env:Env} {ρ:aO} {g:G} {sc:List (Str×NameKind)}
noncomputable def f1(f:D->Option D):D->(D->Prop)->Prop:=fun a k=>Option.rec False k (f a)
noncomputable def f2(f:D->D->Option D):D->D->(D->Prop)->Prop:=fun a b k=>Option.rec False k (f a b)
noncomputable def a6(f:D->D->Option Bool):D->D->(Bool->Prop)->Prop:=fun a b k=>Option.rec False k (f a b)
theorem VM{f:D->Option D}{a:D}{k:D->Prop}(h:f1 f a k):∃d,f a=some d/\k d:=hq h
theorem VN{f:D->D->Option D}{a b:D}{k:D->Prop}(h:f2 f a b k):∃d,f a b=some d/\k d:=hq h
theorem UE{f:D->D->Option Bool}{a b:D}{k:D->Prop}(h:d7 (a6 f) a b k):∃c,f a b=some c/\k (.bool c):=hq h
theorem fi.of{t:Value->Value->Sem Value}{f:D->D->Option D}(h:∀(g:G) a b u v d,Rep w g a u->Rep w g b v->f a b=some d->dB B n (t u v) g (fun Z=>True) fun r ao=>Rep w ao d r):fi B n t (f2 f):=
 fun g a b u v Q b8 cc aL=>let ⟨d,e,k⟩:=VN aL;(h g a b u v d b8 cc e).mono (fun Z x=>x) fun r ao Z aA=>⟨d,aA,k⟩
theorem l3.of{t:Value->Sem Value}{f:D->Option D}(h:∀(g:G) a u d,Rep w g a u->f a=some d->dB B n (t u) g (fun Z=>True) fun r ao=>Rep w ao d r):l3 B n t (f1 f):=
 fun g a u Q b8 aL=>let ⟨d,e,k⟩:=VM aL;(h g a u d b8 e).mono (fun Z x=>x) fun r ao Z aA=>⟨d,aA,k⟩
theorem mS.of{t:Value->Value->Sem Value}{f:D->D->Option Bool}(h:∀(g:G) a b u v c,Rep w g a u->Rep w g b v->f a b=some c->dB B n (t u v) g (fun Z=>True) fun r ao=>r=.bool c):fi B n t (d7 (a6 f)):=
 fun g a b u v Q b8 cc aL=>let ⟨c,e,k⟩:=UE aL;(h g a b u v c b8 cc e).mono (fun Z x=>x) fun r ao Z aA=>⟨.bool c,by exact aA,k⟩
theorem dB.int{t:Sem Value}{i:Int}{Pre:Heap->Prop}(h:∀(A:Around) (E:Value->Shared->Prop) (s:Shared) (R:a7) (K:Value->Shared->Prop),dk n A->bx B g R s.heap->Pre s.heap->
  (∀u t',K (.int i u) {s with toks:=t'})->wpAny (model bD w) A t K E s):dB B n t g Pre fun r ao=>Rep w ao (.int i) r:=
 .of fun A E s R K aI S bc k=>h A E s R K aI S bc fun u t'=>k _ t' (by exact⟨u,rfl⟩)
theorem dB.str{t:Sem Value}{i:Str}{Pre:Heap->Prop}(h:∀(A:Around) (E:Value->Shared->Prop) (s:Shared) (R:a7) (K:Value->Shared->Prop),dk n A->bx B g R s.heap->Pre s.heap->
  (∀u t',K (.str i u) {s with toks:=t'})->wpAny (model bD w) A t K E s):dB B n t g Pre fun r ao=>Rep w ao (.str i) r:=
 .of fun A E s R K aI S bc k=>h A E s R K aI S bc fun u t'=>k _ t' (by exact⟨u,rfl⟩)
theorem dB.bool{t:Sem Value}{c:Bool}{Pre:Heap->Prop}(h:∀(A:Around) (E:Value->Shared->Prop) (s:Shared) (R:a7) (K:Value->Shared->Prop),dk n A->bx B g R s.heap->Pre s.heap->
  (∀t',K (.bool c) {s with toks:=t'})->wpAny (model bD w) A t K E s):dB B n t g Pre fun r ao=>r=.bool c:=
 .of fun A E s R K aI S bc k=>h A E s R K aI S bc fun t'=>k _ t' rfl
theorem Rep.int{i:Int}{v:Value}(h:Rep w g (.int i) v):∃t,v=.int i t:=h
theorem Rep.str{i:Str}{v:Value}(h:Rep w g (.str i) v):∃t,v=.str i t:=h
theorem Rep.none{v:Value}(h:Rep w g .none v):v=.none:=h
theorem Rep.bool{b:Bool}{v:Value}(h:Rep w g (.bool b) v):v=.bool b:=h
noncomputable def small(i:Int):Bool:=decide (-1073741823<=i/\i<=1073741823)
@[irreducible] noncomputable def nP(i:Int):Bool:=match i with|.ofNat n=>Nat.ble n 4611686018427387903|.negSucc n=>Nat.ble n 4611686018427387902
theorem lF{i:Int}:nP i=true↔-4611686018427387904<i/\i<4611686018427387904:=by
 unfold nP
 cases i <;> simp only[Nat.ble_eq,Int.ofNat_eq_natCast] <;> omega
noncomputable def n2:D->D->Option D:=y3 (fun a b=>some (.int (a+b))) fun a b=>if a.length+b.length<=100000 then some (.str (a++b)) else none
noncomputable def gq:D->D->Option D:=mI fun a b=>some (.int (a - b))
noncomputable def fU(a b:D):Option D:=y2 (fun x=>gY (fun y=>if nP y then some (.int (x * y)) else none) b) (fun x=>gY (fun y=>if x.length<=16/\0<=y/\y<=1000 then some (.str (Txt.mul x y)) else none) b) a
noncomputable def jE:D->D->Option D:=mI fun a b=>if b=0 then none else some (.int (Int.fmod a b))
noncomputable def sW:D->D->Option D:=mI fun a b=>if b=0∨small b=false then none else some (.int (Int.fdiv a b))
noncomputable def ri:D->D->Option D:=mI fun a b=>if 0<=b/\b<=1000/\a.natAbs<=1000 then some (.int (a ^ b.toNat)) else none
noncomputable def lU:D->Option D:=gY fun a=>some (.int (-a))
noncomputable def jk:D->D->Option Bool:=y3 (fun a b=>some (decide (a<b))) fun a b=>some (decide (a.cps.toList<b.cps.toList))
noncomputable def hS:D->D->Option Bool:=y3 (fun a b=>some (decide (b<a))) fun a b=>some (decide (b.cps.toList<a.cps.toList))
noncomputable def w8:D->D->Option Bool:=mI fun a b=>some (decide (a<=b))
noncomputable def oe:D->D->Option Bool:=mI fun a b=>some (decide (b<=a))
theorem Ts{b:Int}(h:nP b=true):Builtin.Int.intBits b<=64:=by
 replace h:=lF.mp h
 unfold Builtin.Int.intBits
 split
 ·exact Nat.zero_le _
 ·rename_i aS
  have:b.natAbs.log2<64:=(Nat.log2_lt (by simpa using aS)).mpr (by omega)
  assumption
theorem XB{t:Value->Value->Sem Value}(aN:∀(g:G) a b u v,dB B n (t (.int a u) (.int b v)) g (fun Z=>True) fun r ao=>Rep w ao (.int (a+b)) r)(hs:∀(g:G) (a b:Str) u v,a.length+b.length<=100000->dB B n (t (.str a u) (.str b v)) g (fun Z=>True) fun r ao=>Rep w ao (.str (a++b)) r):fi (w:=w) B n t (f2 n2):=.of fun g a b u v d b8 cc e=>
 DW b8 cc e (fun x t y t' e=>e0 e (aN g x y t t')) fun x t y t' e=>hL e fun q=>hs g x y t t' q
theorem dB.adW{a b:Int}{u v:Tok}:dB B n (binaryOp .Add (.int a u) (.int b v)) g (fun Z=>True) fun r ao=>Rep w ao (.int (a+b)) r:=.int fun A E s R K aI S Z k=>wpAny_add_int (k _ _)
theorem dB.adX{a b:Str}{u v:Tok}(q:a.length+b.length<=100000):dB B n (binaryOp .Add (.str a u) (.str b v)) g (fun Z=>True) fun r ao=>Rep w ao (.str (a++b)) r:=.str fun A E s R K aI S Z k=>add_str (fun Z Z=>k _ _) (by exact bO q)
theorem XC:fi (w:=w) B n (inplaceOp .Add) (f2 n2):=XB (fun g a b u v=>.int fun A E s R K aI S Z k=>wpAny_iadd_int (k _ _)) fun g a b u v q=>.str fun A E s R K aI S Z k=>iadd_str (fun Z Z=>k _ _) (by exact bO q)
theorem aaL:fi (w:=w) B n (binaryOp .Sub) (f2 gq):=.of fun g a b u v d b8 cc e=>mO b8 cc e fun x t y t' e=>e0 e (.int fun A E s R K aI S Z k=>sub_int (k _ _))
theorem XD:fi (w:=w) B n (inplaceOp .Sub) (f2 gq):=.of fun g a b u v d b8 cc e=>mO b8 cc e fun x t y t' e=>e0 e (.int fun A E s R K aI S Z k=>isub_int (k _ _))
theorem aaM:fi (w:=w) B n (binaryOp .Mult) (f2 fU):=.of fun g a b u v d b8 cc e=>
 DV b8 e (fun x t e=>gI cc e fun y t' e=>hL e fun hs=>.int fun A E s R K aI S Z k=>mul_int (k _ _) (.of_right (Ts hs)))
  fun x t e=>gI cc e fun y t' e=>hL e fun hs=>.str fun A E s R K aI S Z k=>SB.mul (mulOk_of 16 1048576 hs.1 (Int.le_trans hs.2.2 (by decide)) (Int.le_trans (by decide) hs.2.1) (by decide) (by decide)) (fun Z Z=>k _ _)
theorem aaN:fi (w:=w) B n (binaryOp .Mod) (f2 jE):=.of fun g a b u v d b8 cc e=>mO b8 cc e fun x t y t' e=>LW e fun hs=>.int fun A E s R K aI S Z k=>mod_int' hs (k _ _)
theorem aaO:fi (w:=w) B n (binaryOp .FloorDiv) (f2 sW):=.of fun g a b u v d b8 cc e=>mO b8 cc e fun x t y t' e=>LW e fun hs=>
 .int fun A E s R K aI S Z k=>floordiv_int (fun h=>hs (.inl h)) (k _ _) (Or.inl (PyProof.noPylong_small (by have:=hs;unfold small at this;simp only[not_or,Bool.not_eq_false,decide_eq_true_eq] at this;omega)))
theorem aaP:fi (w:=w) B n (binaryOp .Pow) (f2 ri):=.of fun g a b u v d b8 cc e=>mO b8 cc e fun x t y t' e=>hL e fun hs=>.int fun A E s R K aI S Z k=>pow_int_small hs.1 (by lia) (by omega) (k _ _)
theorem aaQ:l3 (w:=w) B n (unaryOp .USub) (f1 lU):=.of fun g a u d b8 e=>gI b8 e fun x t e=>e0 e (.int fun A E s R K aI S Z k=>neg_int (k _ _))
theorem adY:fi (w:=w) B n (compareOp .Lt) (d7 (a6 jk)):=mS.of fun g a b u v c b8 cc e=>DW b8 cc e (fun x t y t' e=>e0 e (.bool fun A E s R K aI S Z k=>lt_int (k s.toks))) fun x t y t' e=>e0 e (.bool fun A E s R K aI S Z k=>lt_str (k s.toks))
theorem adZ:fi (w:=w) B n (compareOp .Gt) (d7 (a6 hS)):=mS.of fun g a b u v c b8 cc e=>DW b8 cc e (fun x t y t' e=>e0 e (.bool fun A E s R K aI S Z k=>gt_int (k s.toks))) fun x t y t' e=>e0 e (.bool fun A E s R K aI S Z k=>P.gt_str (k s.toks))
theorem ad0:fi (w:=w) B n (compareOp .LtE) (d7 (a6 w8)):=mS.of fun g a b u v c b8 cc e=>mO b8 cc e fun x t y t' e=>e0 e (.bool fun A E s R K aI S Z k=>le_int (k s.toks))
theorem ad1:fi (w:=w) B n (compareOp .GtE) (d7 (a6 oe)):=mS.of fun g a b u v c b8 cc e=>mO b8 cc e fun x t y t' e=>e0 e (.bool fun A E s R K aI S Z k=>ge_int (k s.toks))
end
section
variable {w:World} {B:bC w} {n:Nat} {env:Env} {ρ:aO} {g:G} {sc:List (Str×NameKind)}
mutual
noncomputable def D.py:D->Option PyData
 | .none=>some .none
 | .bool b=>some (.bool b)
 | .int i=>some (.int i)
 | .str s=>some (.str s)
 | .tup l=>(D.l7 l).map .tuple
 | .list l=>(D.l7 l).map .list
 | Z=>Option.none
noncomputable def D.l7:List D->Option (List PyData)
 | []=>some []
 | d::l=>d.py.bind fun p=>(D.l7 l).map (p::·)
end
mutual
theorem Rep.reads{h:Heap}{l:a7}(S:bx B g l h):∀{d:D} {v:Value} {p:PyData},Rep w g d v->d.py=some p->∃as,Reads h v p as
 | .none,v,p,aA,bc=>by obtain rfl:=Option.some.inj bc;cases aA.none;exact⟨_,.none⟩
 | .bool b,v,p,aA,bc=>by injection bc with bc;subst bc;cases aA.bool;exact⟨_,.bool _⟩
 | .int i,v,p,aA,bc=>by injection bc with bc;subst bc;obtain⟨t,rfl⟩:=aA.int;exact⟨_,.int _ _⟩
 | .str i,v,p,aA,bc=>by injection bc with bc;subst bc;obtain⟨t,rfl⟩:=aA.str;exact⟨_,.str _ _⟩
 | .tup ds,v,p,aA,bc=>by
  obtain⟨ps,aw,rfl⟩:=Option.map_eq_some_iff.mp bc
  obtain⟨a,ae,rfl,ga,aA⟩:=aA
  refine aW (S.dJ _ _ ga) fun o aD ak=>?_
  subst ak
  obtain⟨as,z⟩:=bE.reads S aA aw
  exact⟨as,.tuple aD rfl rfl (by simpa using z)⟩
 | .list ds,v,p,aA,bc=>by
  obtain⟨ps,aw,rfl⟩:=Option.map_eq_some_iff.mp bc
  obtain⟨a,ae,rfl,ga,aA⟩:=aA
  refine aW (S.dJ _ _ ga) fun o aD Dk=>?_
  refine cQ Dk fun k aaR=>?_
  subst aaR
  obtain⟨as,z⟩:=bE.reads S aA aw
  exact⟨a::as,.list aD rfl rfl (by simpa using z)⟩
 | .dict Z bt,cD,et,kI,bc=>by exact ns bc
 | .vec Z bt cD,et,kI,An,bc=>by exact ns bc
 | .hA Z bt cD,et,kI,An,bc=>by exact ns bc
 | .fn Z bt,cD,et,kI,bc=>by exact ns bc
theorem bE.reads{h:Heap}{l:a7}(S:bx B g l h):∀{ds:List D} {ae:List Value} {ps:List PyData},bE w g ds ae->D.l7 ds=some ps->∃as,ReadsAll h ae ps as
 | [],ae,ps,aA,bc=>by obtain rfl:=Option.some.inj bc;subst aA;exact⟨_,.nil⟩
 | d::ds,ae,ps,aA,bc=>by
  refine c0 aA fun v r aaS aw ai=>?_
  subst aaS
  exact aW (Option.bind_eq_some_iff.mp bc) fun p aD bc=>aW (Option.map_eq_some_iff.mp bc) fun q ak y=>cQ (Rep.reads S aw aD) fun as dH=>cQ (bE.reads S ai ak) fun bs bt=>y▸⟨_,.cons dH bt⟩
end
noncomputable def og(a b:D):Option Bool:=a.py.bind fun p=>b.py.bind fun q=>if SeqAt.shaped p&&SeqAt.shaped q then some (PyData.eqv p q) else none
noncomputable def ck(a b:D):Option Bool:=sel (sel (some true) (fun Z=>some false) (fun Z=>some false) dU dU iZ g5 b)
 (fun x=>sel (some false) (fun y=>some (decide (x=y))) (fun Z=>some false) dU dU iZ g5 b) (fun x=>sel (some false) (fun Z=>some false) (fun y=>some (decide (x=y))) dU dU iZ g5 b)
 (fun l=>jB (fun m=>og (.list l) (.list m)) b) (fun l=>MH (fun m=>og (.tup l) (.tup m)) b) iZ g5 a
noncomputable def gf(a b:D):Option Bool:=(ck a b).map (!·)
theorem BA{A:Around}(h:dk n A):A.units+65<cLine:=by
 have:=h.2.2
 unfold cLine;omega
theorem Kw{A:Around}(h:dk n A):A.units+64<cLine:=Nat.lt_of_succ_lt (BA h)
theorem UF{a b:D}{c:Bool}(h:og a b=some c):∃p q,a.py=some p/\b.py=some q/\SeqAt.shaped p=true/\SeqAt.shaped q=true/\PyData.eqv p q=c:=
 aW (Option.bind_eq_some_iff.mp h) fun p aD h=>aW (Option.bind_eq_some_iff.mp h) fun q ak h=>bS (ea h) fun hs y=>tu p q aD ak (Bool.and_eq_true_iff.mp hs).1 (Bool.and_eq_true_iff.mp hs).2 y
theorem JH{X:Value->Value->Bool->Prop}{a b:D}{u v:Value}{c:Bool}(b8:Rep w g a u)(cc:Rep w g b v)(e:ck a b=some c)(af4:∀x y t t',X (.int x t) (.int y t') (decide (x=y)))(af5:∀x y t t',X (.str x t) (.str y t') (decide (x=y)))(Fc:X .none .none true)(af6:∀y t,X .none (.int y t) false)(w9:∀y t,X .none (.str y t) false)(af7:∀x t,X (.int x t) .none false)(af8:∀x t,X (.str x t) .none false)(af9:∀x y t t',X (.int x t) (.str y t') false)(Fd:∀x y t t',X (.str x t) (.int y t') false)(hd:∀p q,(∀{l:a7} {h:Heap},bx B g l h->∃as bs,Reads h u p as/\Reads h v q bs)->SeqAt.shaped p=true->SeqAt.shaped q=true->X u v (PyData.eqv p q)):X u v c:=by
 have deep:∀a b,Rep w g a u->Rep w g b v->og a b=some c->X u v c:=fun a b b8 cc e=>k5 (UF e) fun p q aD ak s1 s2 y=>y▸hd p q (fun S=>cQ (b8.reads S aD) fun as dH=>cQ (cc.reads S ak) fun bs bt=>hx as bs dH bt) s1 s2
 refine ih (P:=fun u=>(∀a b,Rep w g a u->Rep w g b v->og a b=some c->X u v c)->X u v c) b8 e (fun e Z=>?_) (fun x t e Z=>?_) (fun x t e Z=>?_) (fun l b8 e deep=>?_) (fun l b8 e deep=>?_) (fun Z Z Z h=>ns h) (fun Z Z Z Z h=>ns h) deep
 ·exact ih (P:=fun v=>X .none v c) cc e (fun e=>e0 e Fc) (fun y t e=>e0 e (af6 y t)) (fun y t e=>e0 e (w9 y t)) (fun Z Z h=>ns h) (fun Z Z h=>ns h) (fun Z Z Z h=>ns h) (fun Z Z Z Z h=>ns h)
 ·exact ih (P:=fun v=>X (.int x t) v c) cc e (fun e=>e0 e (af7 x t)) (fun y t' e=>e0 e (af4 x y t t')) (fun y t' e=>e0 e (af9 x y t t')) (fun Z Z h=>ns h) (fun Z Z h=>ns h) (fun Z Z Z h=>ns h) (fun Z Z Z Z h=>ns h)
 ·exact ih (P:=fun v=>X (.str x t) v c) cc e (fun e=>e0 e (af8 x t)) (fun y t' e=>e0 e (Fd x y t t')) (fun y t' e=>e0 e (af5 x y t t')) (fun Z Z h=>ns h) (fun Z Z h=>ns h) (fun Z Z Z h=>ns h) (fun Z Z Z Z h=>ns h)
 ·exact mG (P:=fun Z=>X u v c) cc e fun m cc e=>deep _ _ b8 cc e
 ·exact ih (P:=fun Z=>X u v c) cc e (fun h=>ns h) (fun Z Z h=>ns h) (fun Z Z h=>ns h) (fun Z Z h=>ns h) (fun m cc e=>deep _ _ b8 cc e) (fun Z Z Z h=>ns h) (fun Z Z Z Z h=>ns h)
theorem wo:fi (w:=w) B n (compareOp .Eq) (d7 (a6 ck)):=mS.of fun g a b u v c b8 cc e=>
 JH (X:=fun u v c=>dB B n (compareOp .Eq u v) g (fun Z=>True) fun r ao=>r=.bool c) b8 cc e (fun Z Z Z Z=>.bool fun A E s R K aI S Z k=>eq_int (by exact k s.toks)) (fun Z Z Z Z=>.bool fun A E s R K aI S Z k=>eq_str (by exact k s.toks))
  (.bool fun A E s R K aI S Z k=>EqNone.eq_none_none (k s.toks)) (fun Z Z=>.bool fun A E s R K aI S Z k=>EqNone.eq_none_int (k s.toks)) (fun Z Z=>.bool fun A E s R K aI S Z k=>EqNone.eq_none_str (k s.toks))
  (fun Z Z=>.bool fun A E s R K aI S Z k=>EqNone.eq_int_none (k s.toks)) (fun Z Z=>.bool fun A E s R K aI S Z k=>EqNone.eq_str_none (k s.toks)) (fun Z Z Z Z=>.bool fun A E s R K aI S Z k=>EqMixed.eq_int_str (k s.toks)) (fun Z Z Z Z=>.bool fun A E s R K aI S Z k=>EqMixed.eq_str_int (k s.toks))
  fun p q h s1 s2=>.bool fun A E s R K aI S Z k=>dc (h S) fun as bs dH bt=>SeqAt.compareEq_shaped dH bt s1 s2 (Kw aI) (k s.toks)
theorem D5:fi (w:=w) B n (compareOp .NotEq) (d7 (a6 gf)):=mS.of fun g a b u v c b8 cc e=>oY e fun c e=>
 JH (X:=fun u v c=>dB B n (compareOp .NotEq u v) g (fun Z=>True) fun r ao=>r=.bool (!c)) b8 cc e (fun Z Z Z Z=>.bool fun A E s R K aI S Z k=>ne_int (by exact k s.toks)) (fun Z Z Z Z=>.bool fun A E s R K aI S Z k=>ne_str (by exact k s.toks))
  (.bool fun A E s R K aI S Z k=>EqNone.ne_none_none (k s.toks)) (fun Z Z=>.bool fun A E s R K aI S Z k=>EqNone.ne_none_int (k s.toks)) (fun Z Z=>.bool fun A E s R K aI S Z k=>EqNone.ne_none_str (k s.toks))
  (fun Z Z=>.bool fun A E s R K aI S Z k=>EqNone.ne_int_none (k s.toks)) (fun Z Z=>.bool fun A E s R K aI S Z k=>EqNone.ne_str_none (k s.toks)) (fun Z Z Z Z=>.bool fun A E s R K aI S Z k=>EqMixed.ne_int_str (k s.toks)) (fun Z Z Z Z=>.bool fun A E s R K aI S Z k=>EqMixed.ne_str_int (k s.toks))
  fun p q h s1 s2=>.bool fun A E s R K aI S Z k=>dc (h S) fun as bs dH bt=>SeqAt.compareNe_shaped dH bt s1 s2 (Kw aI) (k s.toks)
noncomputable def tK:D->Bool|.none=>true|_=>false
noncomputable def ec(a b:D):Option Bool:=sel (some (tK a)) dU dU dU dU iZ g5 b
noncomputable def kW(a b:D):Option Bool:=sel (some (!tK a)) dU dU dU dU iZ g5 b
theorem Rep.isNone{d:D}{v:Value}(h:Rep w g d v):(tK d=true/\v=.none)∨(tK d=false/\v≠.none):=by
 cases q:tK d with
 | true=>exact .inl ⟨rfl,by cases d <;> first|exact h|cases q⟩
 | false=>exact .inr ⟨rfl,h.cs (P:=fun v=>v≠.none) (fun e=>by subst e;cases q) (fun Z=>nofun) (fun Z Z=>nofun) (fun Z Z=>nofun) (fun Z=>nofun)⟩
theorem HK{d:D}{v:Value}(h:Rep w g d v):PySem.plainIs v .none=true:=h.cs (fun Z=>rfl) (fun Z=>rfl) (fun Z Z=>rfl) (fun Z Z=>rfl) (fun Z=>rfl)
theorem ad2:fi (w:=w) B n (compareOp .Is) (d7 (a6 ec)):=mS.of fun g a b u v c b8 cc e=>ih cc e (fun e=>e0 e (.bool fun A E s R K aI S Z k=>by
  rcases b8.isNone with⟨aD,y⟩|⟨aD,ak⟩
  ·subst y;exact wpAny_is_self rfl ((aD▸k) s.toks)
  ·exact wpAny_is_other (HK b8) ak ((aD▸k) s.toks))) (fun Z Z h=>ns h) (fun Z Z h=>ns h) (fun Z Z h=>ns h) (fun Z Z h=>ns h) (fun Z Z Z h=>ns h) (fun Z Z Z Z h=>ns h)
theorem VO:fi (w:=w) B n (compareOp .IsNot) (d7 (a6 kW)):=mS.of fun g a b u v c b8 cc e=>ih cc e (fun e=>e0 e (.bool fun A E s R K aI S Z k=>by
  rcases b8.isNone with⟨aD,y⟩|⟨aD,ak⟩
  ·subst y;exact wpAny_isNot_self rfl ((aD▸k) s.toks)
  ·exact wpAny_isNot_other (HK b8) ak ((aD▸k) s.toks))) (fun Z Z h=>ns h) (fun Z Z h=>ns h) (fun Z Z h=>ns h) (fun Z Z h=>ns h) (fun Z Z Z h=>ns h) (fun Z Z Z Z h=>ns h)
noncomputable def inD(x:D)(l:List D):Option Bool:=x.py.bind fun p=>(D.l7 l).bind fun q=>if SeqAt.shaped p&&SeqAt.shaped (.list q)&&q.all (fun y=>SeqAt.noMix y p) then some (decide (Spec.countIn p q≠0)) else none
theorem UG{a:D}{l:List D}{c:Bool}(h:inD a l=some c):∃p q,a.py=some p/\D.l7 l=some q/\SeqAt.shaped p=true/\SeqAt.shaped (.list q)=true/\(∀y∈q,SeqAt.noMix y p=true)/\decide (Spec.countIn p q≠0)=c:=
 aW (Option.bind_eq_some_iff.mp h) fun p aD h=>aW (Option.bind_eq_some_iff.mp h) fun q ak h=>bS (ea h) fun hs y=>bS (Bool.and_eq_true_iff.mp hs) fun aw ai=>bS (Bool.and_eq_true_iff.mp aw) fun h0 aw=>EK p q aD ak h0 aw (List.all_eq_true.mp ai) y
noncomputable def isStr:D->Option Str:=iG some
noncomputable def strsOf:List D->Option (List Str)
 | []=>some []
 | d::l=>(isStr d).bind fun s=>(strsOf l).map (s::·)
theorem bE.strs{ds:List D}:∀{ae:List Value} {xs:List Str},bE w g ds ae->strsOf ds=some xs->StrsAre ae xs:=by
 induction ds with
 | nil=>exact fun h e=>e0 e ((show _=[] from h)▸.nil)
 | cons d ds c9=>exact fun h e=>c0 h fun v r y aw ai=>aW (Option.bind_eq_some_iff.mp e) fun s aD e=>oY e fun q ak=>y▸i8 (P:=fun v=>StrsAre (v::r) (s::q)) aw aD fun i t e=>e0 e (.cons _ _ (c9 ai ak))
end
section
variable {w:World} {B:bC w} {n:Nat} {env:Env} {ρ:aO} {g:G} {sc:List (Str×NameKind)}
noncomputable def isInt:D->Option Int:=gY some
noncomputable def intsOf:List D->Option (List Int)
 | []=>some []
 | d::l=>(isInt d).bind fun s=>(intsOf l).map (s::·)
theorem bE.ints{ds:List D}:∀{ae:List Value} {xs:List Int},bE w g ds ae->intsOf ds=some xs->IntsAre ae xs:=by
 induction ds with
 | nil=>exact fun h e=>e0 e ((show _=[] from h)▸.nil)
 | cons d ds c9=>exact fun h e=>c0 h fun v r y aw ai=>aW (Option.bind_eq_some_iff.mp e) fun s aD e=>oY e fun q ak=>y▸gI (P:=fun v=>IntsAre (v::r) (s::q)) aw aD fun i t e=>e0 e (.cons _ _ (c9 ai ak))
noncomputable def fS:List Str->List D->Str->Option D
 | k::ks,v::ae,s=>if k=s then some v else fS ks ae s
 | Z,bt,cD=>none
theorem mA{k:Str}{ks:List Str}{v:D}{ae:List D}{s:Str}:fS (k::ks) (v::ae) s=if k=s then some v else fS ks ae s:=rfl
theorem sj{ae:List D}{s:Str}:fS [] ae s=none:=by cases ae <;> rfl
theorem ye:∀{ks:List Str} {ds:List D} {ae:List Value} (s:Str),bE w g ds ae->ks.length=ae.length->match fS ks ds s with|some d=>∃v,valueAt (ks.zip ae) s=some v/\Rep w g d v|none=>valueAt (ks.zip ae) s=none
 | [],ds,ae,s,h,aF=>by
  cases ds <;> rfl
 | k::ks,[],ae,s,h,aF=>by subst h;injection aF
 | k::ks,d::ds,ae,s,h,aF=>by
  refine c0 h fun v r aaT aw ai=>?_
  subst aaT
  rw[mA]
  by_cases e:k=s
  ·rw[if_pos e];exact⟨v,by unfold valueAt;rw[List.zip_cons_cons,List.find?_cons_of_pos (by simpa using e)];rfl,aw⟩
  ·rw[if_neg e]
   have:valueAt ((k::ks).zip (v::r)) s=valueAt (ks.zip r) s:=by unfold valueAt;rw[List.zip_cons_cons,List.find?_cons_of_neg (by simpa using e)]
   exact this.symm▸(ye s ai (by simpa using aF))
theorem Sf{ks:List Str}{ds:List D}{ae:List Value}(s:Str)(h:bE w g ds ae)(aF:ks.length=ae.length):(valueAt (ks.zip ae) s).isSome=(fS ks ds s).isSome:=by
 have:=ye s h aF
 cases e:fS ks ds s with
 | none=>exact congrArg _ (e▸this)
 | some d=>rw[e] at this;refine aW this fun v aw Z=>?_;exact congrArg _ aw
noncomputable def mem(a b:D):Option Bool:=sel none (fun s=>jB (fun l=>(intsOf l).map fun xs=>xs.any (·==s)) b) (fun s=>sel none dU dU (fun l=>(strsOf l).map fun xs=>xs.any (·==s)) (fun l=>(strsOf l).map fun xs=>xs.any (·==s)) (fun ks l=>some (fS ks l s).isSome) g5 b)
 dU (fun t=>jB (inD (.tup t)) b) iZ g5 a
noncomputable def ip(a b:D):Option Bool:=(mem a b).map (!·)
theorem o1(s:Str)(t:Tok):(strKind bD w).is s (.str s t)=true:=by show Value.isStrOf s (.str s t)=true;exact if_pos rfl
theorem Rep.dictOf{ks:List Str}{l:List D}{v:Value}{ms:a7}{h:Heap}(S:bx B g ms h)(aA:Rep w g (.dict ks l) v):∃a ae,v=.ref a/\h.DictOf (strKind bD w) a (ks.zip ae)/\ks.length=ae.length/\(a==sysModules)=false/\bE w g l ae:=by
 refine zI aA fun a ae o aaU aw ai a3 bn bN=>?_
 subst aaU
 refine aW (S.dJ _ _ aw) fun bK aD ak=>?_
 subst ak
 exact tu a ae rfl (jW.dictOf aD ai) a3 bn bN
theorem Rep.isList{l:List D}{v:Value}{ms:a7}{h:Heap}(S:bx B g ms h)(aA:Rep w g (.list l) v):∃a ae,v=.ref a/\h.IsList a ae.toArray/\bE w g l ae:=by
 refine c0 aA fun a ae Dl aw ai=>?_
 subst Dl
 refine aW (S.dJ _ _ aw) fun o aD ak=>?_
 exact dW a ae rfl (gQ.isList aD ak) ai
theorem Rep.isTup{l:List D}{v:Value}{ms:a7}{h:Heap}(S:bx B g ms h)(aA:Rep w g (.tup l) v):∃a ae,v=.ref a/\IsTup h a ae.toArray/\bE w g l ae:=by
 refine c0 aA fun a ae aaV aw ai=>?_
 subst aaV
 refine aW (S.dJ _ _ aw) fun o aD ak=>?_
 subst ak
 exact dW a ae rfl ⟨_,aD,rfl,0,rfl⟩ ai
noncomputable def mU(w:World)(g:G)(h:Heap):D->Value->Prop
 | .list l,v=>∃a us,v=.ref a/\h.IsList a us.toArray/\bE w g l us
 | .tup l,v=>∃a us,v=.ref a/\IsTup h a us.toArray/\bE w g l us
 | .dict ks l,v=>∃a ae,v=.ref a/\h.DictOf (strKind bD w) a (ks.zip ae)/\ks.length=ae.length/\(a==sysModules)=false/\bE w g l ae
 | d,v=>Rep w g d v
theorem Rep.h{d:D}{v:Value}{ms:a7}{h:Heap}(S:bx B g ms h)(aA:Rep w g d v):mU w g h d v:=by
 cases d with
 | list l=>exact aA.isList S
 | tup l=>exact aA.isTup S
 | dict k l=>exact aA.dictOf S
 | _=>exact aA
theorem JI{h:Heap}{a:Addr}{us:List Value}{q:List PyData}{bs:List Addr}(aw:h.IsList a us.toArray)(z:ReadsAll h us q bs):Reads h (.ref a) (.list q) (a::bs):=eT aw fun o aD ak ahX=>cQ ahX fun m bz=>.list aD ak bz (by simpa using z)
theorem CF(neg:Bool){a b:D}{u v:Value}{c:Bool}{l:a7}{A:Around}{E:Value->Shared->Prop}{s:Shared}{K:Value->Shared->Prop}(aI:dk n A)(S:bx B g l s.heap)(b8:Rep w g a u)(cc:mU w g s.heap b v)(e:mem a b=some c)(k:∀dx,K (.bool (bif neg then !c else c)) {s with toks:=dx}):wpAny (model bD w) A (compareOp (if neg then .NotIn else .In) u v) K E s:=by
 refine ih b8 e (fun h=>ns h) (fun x t e=>?_) (fun x t e=>?_) (fun Z Z h=>ns h) (fun l b8 e=>?_) (fun Z Z Z h=>ns h) (fun Z Z Z Z h=>ns h)
 ·refine sF (P:=fun b=>mU w g s.heap b v->_) e (fun h=>ns h) (fun Z h=>ns h) (fun Z h=>ns h) (fun l e cc=>?_) (fun Z h=>ns h) (fun Z Z h=>ns h) (fun Z Z Z h=>ns h) cc
  refine c0 cc fun a us y aw ai=>aW (Option.map_eq_some_iff.mp e) fun xs aD fG=>?_
  subst y fG
  cases neg
  ·exact in_list_ints aw (ai.ints aD) (k _)
  ·exact notin_list_ints aw (ai.ints aD) (k _)
 ·refine sF (P:=fun b=>mU w g s.heap b v->_) e (fun h=>ns h) (fun Z h=>ns h) (fun Z h=>ns h) (fun l e cc=>?_) (fun l e cc=>?_) (fun ks l e cc=>?_) (fun Z Z Z h=>ns h) cc
  ·refine c0 cc fun a us y aw ai=>aW (Option.map_eq_some_iff.mp e) fun xs aD fG=>?_
   subst y fG
   cases neg
   ·exact in_list_strs aw (ai.strs aD) (k _)
   ·exact notin_list_strs aw (ai.strs aD) (k _)
  ·refine c0 cc fun a us y aw ai=>aW (Option.map_eq_some_iff.mp e) fun xs aD fG=>?_
   subst y fG
   cases neg
   ·exact in_tuple_strs aw (by simpa using ai.strs aD) (k _)
   ·exact notin_tuple_strs aw (by simpa using ai.strs aD) (k _)
  ·refine k5 cc fun a us y aw ai a3 bn=>?_
   subst y
   obtain rfl:=Option.some.inj e
   replace k:=(Sf _ bn ai).symm▸k
   cases neg
   ·exact wpAny_in_of (o1 _ t) a3 aw.mapOf (k _)
   ·exact wpAny_notIn_of (o1 _ t) a3 aw.mapOf (k _)
 ·refine sF (P:=fun b=>mU w g s.heap b v->_) e (fun h=>ns h) (fun Z h=>ns h) (fun Z h=>ns h) (fun l' e cc=>?_) (fun Z h=>ns h) (fun Z Z h=>ns h) (fun Z Z Z h=>ns h) cc
  refine c0 cc fun a us y aw ai=>EB (UG e) fun p q aD ak bz b5 dQ fG=>cQ (b8.reads S aD) fun as dH=>cQ (bE.reads S ai ak) fun bs bt=>?_
  subst y fG
  cases neg
  ·exact in_list_dataH (JI aw bt) dH b5 bz (BA aI) dQ (k _)
  ·exact notIn_list_dataH (JI aw bt) dH b5 bz (BA aI) dQ (k _)
theorem ad3:fi (w:=w) B n (compareOp .In) (d7 (a6 mem)):=mS.of fun g a b u v c b8 cc e=>.bool fun A E s R K aI S Z k=>CF false aI S b8 (cc.h S) e k
theorem Dm:fi (w:=w) B n (compareOp .NotIn) (d7 (a6 ip)):=mS.of fun g a b u v c b8 cc e=>oY e fun c e=>.bool fun A E s R K aI S Z k=>CF true aI S b8 (cc.h S) e k
noncomputable def mK(l:List D)(i:Int):Option D:=if 100000<i∨i < -100000 then none else if 0<=i then l[i.toNat]? else if -(l.length:Int)<=i then l[(i+l.length).toNat]? else none
theorem Kx{l:List D}{i:Int}{d:D}{P:Prop}(e:mK l i=some d)(h:0<=i->i<=100000->l[i.toNat]?=some d->P)(aC:i<0->-100000<=i->-(l.length:Int)<=i->l[(i+l.length).toNat]?=some d->P):P:=by
 unfold mK at e
 by_cases q:100000<i∨i < -100000
 ·exact ns ((if_pos q)▸e)
 ·rw[if_neg q] at e
  by_cases cK:0<=i
  ·rw[if_pos cK] at e;exact h cK (Int.not_lt.mp fun z=>q (.inl z)) e
  ·rw[if_neg cK] at e
   by_cases hc:-(l.length:Int)<=i
   ·rw[if_pos hc] at e;exact aC (Int.not_le.mp cK) (Int.not_lt.mp fun z=>q (.inr z)) hc e
   ·rw[if_neg hc] at e;exact ns e
theorem Dn{α:Type}{c:Prop}[Decidable c]{a:Option α}{b:α}(h:(if c then a else none)=some b):c/\a=some b:=by
 by_cases q:c
 ·rw[if_pos q] at h;exact⟨q,h⟩
 ·rw[if_neg q] at h;exact ns h
noncomputable def item(a b:D):Option D:=sel none dU (fun s=>gY (fun i=>if 0<=i/\i<s.length/\i<100000 then some (.str (Txt.item s i)) else none) b) (fun l=>gY (mK l) b) (fun l=>gY (fun i=>if 0<=i then mK l i else none) b) (fun ks ae=>iG (fS ks ae) b) g5 a
theorem item_list{value slice:Expr}(hs:∀o i,subscripted slice false o i=operate [o,i] (getItem o i)){a:Addr}{ae:List Value}{l:List D}{d:D}{i:Int}{t:Tok}{A:Around}{E:Value->Shared->Prop}{s:Shared}{K:Value->Shared->Prop}(aw:s.heap.IsList a ae.toArray)(ai:bE w g l ae)(e:mK l i=some d)(k:∀v,Rep w g d v->K v s):wpAny (model bD w) A (subscriptTail value slice (.ref a) (.int i t)) K E s:=by
 refine tail_any aw.typeIs slot_list_getitem.lookup ?_ (hs _ _)
 refine Kx e (fun h0 aS e=>aW (ai.get e) fun v aP l4=>wpAny_getItem_list aw h0 (by lia) (by simpa using aP) (k v l4)) fun h0 aS a3 e=>aW (ai.get e) fun v aP l4=>?_
 have aF:=ai.length
 exact wpAny_getItem_list_neg aw h0 (by simpa [aF] using a3) (by lia) (by simpa [aF] using aP) (k v l4)
theorem o_item{value slice:Expr}(hs:∀o i,subscripted slice false o i=operate [o,i] (getItem o i)):fi (w:=w) B n (subscriptTail value slice) (f2 item):=.of fun g a b u v d b8 cc e=>by
 refine ih b8 e (fun h=>ns h) (fun Z Z h=>ns h) (fun x t' e=>?_) (fun l b8 e=>?_) (fun l b8 e=>?_) (fun ks ds b8 e=>?_) (fun Z Z Z Z h=>ns h)
 ·refine gI cc e fun i t e=>hL e fun aS=>.of fun A E s R K aI S Z k=>tail_any (typeIs_str _ _ _) F.slot_str_getitem.lookup ?_ (hs _ _)
  exact c0 (SB.item (prog:=bD) (w:=w) (A:=A) (E:=E) (s:=s) (x:=x) (t:=t') (u:=t) (i:=i) (Q:=K) (by exact fitsSsize_of (N:=9223372036854775808) (by lia) (by lia) (Int.le_refl _)) (charAt_isSome (by lia) (by lia)) (k _ _ (by exact⟨_,rfl⟩))) fun T id Z Z z=>z
 ·exact gI cc e fun i t e=>.of fun A E s R K aI S Z k=>c0 (b8.isList S) fun a ae y aw ai=>y▸item_list hs aw ai e fun v aP=>k v s.toks aP
 ·refine gI cc e fun i t e=>bS (Dn e) fun h0 e=>.of fun A E s R K aI S Z k=>c0 (b8.isTup S) fun a ae y aw ai=>y▸tail_any aw.typeIs F.slot_tuple_getitem.lookup ?_ (hs _ _)
  refine Kx e (fun h0 aS e=>aW (ai.get e) fun v aP l4=>?_) fun h Z Z Z=>absurd h0 (Int.not_le.mpr h)
  have fY:i.toNat<ae.length:=(List.getElem?_eq_some_iff.mp aP).1
  exact getItem_tuple aw (by lia) (by lia) (j:=i.toNat) (by
   simp[seqIndex?,(show ¬i<0 from by lia),h0,(show i<(ae.length:Int) from by lia)]) (by simpa using aP) (k v s.toks l4)
 ·refine i8 cc e fun x t e=>.of fun A E s R K aI S Z k=>k5 (b8.dictOf S) fun a ae y aw ai a3 bn=>y▸tail_any aw.mapOf.typeIs F.slot_dict_getitem.lookup ?_ (hs _ _)
  have:=ye x bn ai
  rw[e] at this
  exact aW this fun v aP l4=>wpAny_getItem_of (o1 _ t) aw.mapOf aP (k v _ l4)
theorem eM{value slice:Expr}{pos:Pos}{W1 ef:bG}(aF:bI B n sc value W1)(aA:bI B n sc slice ef)(hs:∀o i,subscripted slice false o i=operate [o,i] (getItem o i):=by intro Z Z;rfl):bI B n sc (.Subscript value slice pos) (ak W1 ef (f2 item)):=fun env ok ρ g Q h=>by
 exact .bind ((aF env ok ρ g _ h).mono fun u aY bQ Z XE=>by refine aW XE fun a b8 cn=>?_;exact .bind (.holding ((aA env ok aY bQ _ cn).mono fun v bW cH ex XF=>by refine aW XF fun b cc cz=>?_;exact .standAt (.op (o_item hs cH a b u v _ (b8.mono ex) cc cz)))))
noncomputable def sliceFrom(a:D)(i:Int):Option D:=jB (fun l=>if 0<=i/\l.length<=10000 then some (.list (l.drop i.toNat)) else none) a
noncomputable def sliceTo(a:D)(i:Int):Option D:=sel none dU (fun s=>if s.length<=10000 then some (.str (Txt.slice s none (some i))) else none) (fun l=>if 0<=i/\l.length<=10000 then some (.list (l.take i.toNat)) else none) dU iZ g5 a
theorem bE.drop:∀{l:List D} {ae:List Value} (k:Nat),bE w g l ae->bE w g (l.drop k) (ae.drop k)
 | l,ae,0,h=>h
 | [],ae,k+1,h=>by subst h;rfl
 | d::l,ae,k+1,h=>by refine c0 h fun v r XG aw ai=>?_;subst XG;exact bE.drop k ai
theorem bE.take:∀{l:List D} {ae:List Value} (k:Nat),bE w g l ae->bE w g (l.take k) (ae.take k)
 | l,ae,0,h=>by rfl
 | [],ae,k+1,h=>by subst h;rfl
 | d::l,ae,k+1,h=>by refine c0 h fun v r XH aw ai=>?_;subst XH;skip;exact dW v _ rfl aw (bE.take k ai)
noncomputable def yu(W1 ef:bG):bG:=fun ρ k=>W1 ρ fun a aY=>ef aY fun b bW=>iL (gY (sliceFrom a) b) fun d=>k d bW
noncomputable def kT(W1 ef:bG):bG:=fun ρ k=>W1 ρ fun a aY=>ef aY fun b bW=>iL (gY (sliceTo a) b) fun d=>k d bW
theorem cB.Lj{L:Addr}{m:Str->Option Value}{l:a7}{h:Heap}{o:Obj}{ds:List D}{ae:List Value}{j:Nat}(F:cB B L m g l h)(hf:o.isFreed=false)(aA:bE w g ds ae):
  ∃ao,Ext g ao/\Rep w ao (.list ds) (.ref (h.objs.size+1))/\cB B L m ao l ((h.push o).push (lst ae j)):=by
 refine aW F.open fun cm S c=>?_
 have cC:=((S.push o hf).sub (List.sublist_cons_self _ _)).push (lst ae j)
 rw[(Heap.size_push ..)] at cC
 obtain⟨dq,e⟩:=cC.freeze (P:=gQ ae) ⟨j,rfl⟩
 exact gu _ e (by exact dW _ ae rfl (iE ..) (aA.mono e)) (cB.close dq (c _ (dq.own (L,cm) (.head _))))
noncomputable def ju:D->Bool|.str _=>true|_=>false
theorem IE{value lo:Expr}{W1 ef:bG}{c:D->Bool}{sl:D->Int->Option D}{f:{α:Type}->List α->Int->List α}{pl pu:Value->Value}{Ao Ap:Int->Option Int}(aP:bI B n sc value W1)(aF:bI B n sc lo ef)(aga:∀a i d,c a=true->sl a i=some d->∃l,a=.list l/\0<=i/\l.length<=10000/\.list (f l i)=d)(aaW:∀(xs:List Value) i,0<=i->slicePick xs.toArray (Ao i) (Ap i) none=(f xs i).toArray)(hf:∀{g:G} {l:List D} {ae:List Value} i,bE w g l ae->bE w g (f l i) (f ae i))(ok:cS sc env){Q:D->aO->Prop}(h:W1 ρ fun a aY=>dO (c a) (ef aY fun b bW=>iL (gY (sl a) b) fun d=>Q d bW)){m:Str->Option Value}{cs ms R:a7}{ae:List Value}{A:Around}{E:Value->Shared->Prop}{s:Shared}{K:Value->Shared->Prop}{O4:Value->Value->Shared->Prop}(T:dP env m cs g ρ ae)(bu:c6 w g ρ ae ms)(aI:dk n A)(F:cB B env.locals m g ((cs++ms)++R) s.heap)(k:∀v b3 ao ms' aC t',zQ w cs ae m g ρ (fun v ρ' ao=>∃d,Rep w ao d v/\Q d ρ') v b3 ao ms'->cB B env.locals b3 ao (ms'++R) aC->K v {s with heap:=aC,toks:=t'})(fin:∀x (xs:Array Value) i t bP,bP.heap.IsList x xs->xs.size<=sizeLine->K (.ref (bP.heap.objs.size+1)) {bP with heap:=(bP.heap.push {cls:=.type "slice",data:=.fields #[pl (.int i t),pu (.int i t),.none]}).push {cls:=.type "list",data:=.seq (slicePick xs (Ao i) (Ap i) none)}}->O4 (.ref x) (.int i t) bP):
  wpAny (model bD w) A (eval value env) (fun u eC=>wpAny (model bD w) A (eval lo env) (O4 u) E eC) E s:=by
 refine(aP env ok ρ g _ h).go T bu aI F fun u bQ aY E4 cn ic eI pt rO ry z kG=>aW z fun a b8 oy=>bS (eu oy) fun iw oy=>(aF env ok aY bQ _ oy).go rO ry aI kG fun v cH bW cr cz dz eJ ko uf jN z d3=>?_
 refine aW z fun b cc ml=>aW (hq ml) fun d hd ml=>gI cc hd fun i t hd=>ro (aga a i d iw hd) fun l y w5 w6 fG=>?_
 subst y fG
 refine c0 ((b8.mono eJ).isList d3.cb) fun x xs y iA gS=>?_
 subst y
 refine fin x xs.toArray i t _ iA (List.size_toArray.symm▸gS.length.symm▸h2 w6) ((aaW xs i w5).symm▸eT (d3.Lj (o:={cls:=.type "slice",data:=.fields #[pl (.int i t),pu (.int i t),.none]}) (j:=0) rfl (hf i gS)) fun ao e1 kJ cI=>?_)
 exact k _ _ ao _ _ dz ⟨rfl,(eI.trans eJ).trans e1,bW,cr,ko.trans pt,rfl,jN.mono e1,_,kJ,ml⟩ cI
theorem UH{a:D}{i:Int}{d:D}(e:sliceFrom a i=some d):∃l,a=.list l/\0<=i/\l.length<=10000/\.list (l.drop i.toNat)=d:=by
 cases a <;> first|exact ns e|exact bS (ea e) fun h y=>tq _ rfl h.1 h.2 y
theorem UI{a:D}{i:Int}{d:D}(bb:(!ju a)=true)(e:sliceTo a i=some d):∃l,a=.list l/\0<=i/\l.length<=10000/\.list (l.take i.toNat)=d:=by
 cases a <;> first|exact ns e|exact bS (ea e) fun h y=>⟨_,rfl,h.1,h.2,y⟩|injection bb
theorem UJ{value lo:Expr}{p pos:Pos}{W1 ef:bG}(aP:bI B n sc value W1)(aF:bI B n sc lo ef)(ht:∀o r,letTemporaryGo value o r=pure ():=by intro Z Z;rfl):bI B n sc (.Subscript value (.Slice (some lo) none none p) pos) (yu W1 ef):=fun env ok ρ g Q h m cs ae ms T bu A E s R K aI F k=>
 wpAny_Subscript_list_slice (ht:=ht) (wpAny_mono (IE (c:=fun Z=>true) (sl:=sliceFrom) (f:=fun l i=>l.drop i.toNat) (pl:=id) (pu:=fun Z=>.none) (Ao:=some) (Ap:=fun Z=>none) aP aF (fun a i d Z e=>UH e) (fun xs i h=>by exact(Int.toNat_of_nonneg h)▸(slicePick_from' xs.toArray i.toNat)) (fun i h=>h.drop _) ok h T bu aI F k
  fun x xs i t bP iA gS aZ=>wpAny_evalPart_none (NK x xs (some i) none rfl iA gS (.int _ _) .none aZ)) (fun u eC h=>wpAny_evalPart_some h) fun Z Z h=>h)
theorem cB.JK{L:Addr}{m:Str->Option Value}{l:a7}{h:Heap}{o:Obj}(F:cB B L m g l h)(hf:o.isFreed=false):cB B L m g l (h.push o):=by
 refine aW F.open fun cm S c=>?_
 have cM:=(S.push o hf).sub (List.sublist_cons_self _ _)
 exact cB.close cM (c _ (cM.own (L,cm) (.head _)))
theorem UK{a:D}(h:ju a=true):∃x,a=.str x:=by cases a <;> first|exact⟨_,rfl⟩|injection h
theorem Sg(xs:List Value)(i:Int)(h:0<=i):slicePick xs.toArray none (some i) none=(xs.take i.toNat).toArray:=by rw[<- Int.toNat_of_nonneg h];exact slicePick_upto' xs.toArray i.toNat
theorem UL{value lo:Expr}{p pos:Pos}{W1 ef:bG}(aP:bI B n sc value W1)(aF:bI B n sc lo ef)(ht:∀o r,letTemporaryGo value o r=pure ():=by intro Z Z;rfl):
  bI B n sc (.Subscript value (.Slice none (some lo) none p) pos) (fun ρ k=>kT (fun ρ k=>W1 ρ fun a aY=>dO (ju a) (k a aY)) ef ρ k):=fun env ok ρ g Q h=>by
 intro m cs ae ms T bu A E s R K aI F k
 refine wpAny_Subscript_str_slice (ht:=ht) ((aP env ok ρ g _ h).go T bu aI F fun u bQ aY E4 cn ic eI pt rO ry z kG=>wpAny_evalPart_none (wpAny_evalPart_some ?_))
 refine aW z fun a b8 oy=>bS (eu oy) fun iw oy=>(aF env ok aY bQ _ oy).go rO ry aI kG fun v cH bW cr cz dz eJ ko uf jN z d3=>?_
 refine aW z fun b cc ml=>aW (hq ml) fun d hd ml=>gI cc hd fun i t hd=>?_
 refine cQ (UK iw) fun x y=>?_
 subst y
 refine cQ b8 fun t' y=>bS (ea hd) fun aS fG=>?_
 subst y fG
 exact hy x t' none (some (i,t)) rfl rfl rfl (post_val_or_str ⟨Nat.le_trans (Txt.slice_le x _ _) (by exact bO aS),fun u dx=>
  k _ _ cH _ _ dx ⟨rfl,eI.trans eJ,bW,cr,ko.trans pt,rfl,jN,_,by exact⟨u,rfl⟩,ml⟩ (d3.JK (o:={cls:=.type "slice",data:=.fields #[.none,.int i t,.none]}) rfl)⟩)
end
section
variable {w:World} {B:bC w} {n:Nat} {env:Env} {ρ:aO} {g:G} {sc:List (Str×NameKind)}
noncomputable def a8(f:List D->Option D):List D->(D->Prop)->Prop:=fun ds k=>Option.rec False k (f ds)
noncomputable def oh(B:bC w)(n:Nat)(F:Value)(f:List D->Option D):Prop:=∀(g:G) ds ae d,bE w g ds ae->f ds=some d->dB B n (call F ae) g (fun Z=>True) fun r ao=>Rep w ao d r
inductive Do:Value->Prop where
 | blt (id:String):Do (.builtin id)
 | ty (T:String):Do (.type T)
theorem b1.T4{T:String}{first:List Value}{e:Expr}{rest:List Expr}{pos:Pos}{Q:Value->aO->G->Prop}(he:∀env,starEach (e::rest) env=(false,eval e env)::starEach rest env)(bc:∀env pos,(backTo pos (starEach (e::rest) env)).any (·.1)=false)(h:b1 B n env (spliced (backTo pos (starEach (e::rest) env))) ρ g fun ae ρ' ao=>b1 B n env (call (.type T) (first++ae)) ρ' ao Q):b1 B n env (callWith pos (.type T) first (backTo pos (starEach (e::rest) env)) []) ρ g Q:=by
 intro m cs ae ms T bu A E s R K aI F k
 refine PySem.callWith_type (bc env pos) ?_
 have aS:backTo pos (starEach (e::rest) env)=(false,eval e env)::backTo pos (starEach rest env):=by rw[he];rfl
 refine aS.symm▸?_
 refine evalArgs_plain ?_
 refine aS▸?_
 exact h m cs ae ms T bu A E s R _ aI F fun ws b3 ao ms' aC t' cv cI=>by
  refine cps fun ed bR=>?_
  obtain⟨aD,ex,ρ',cr,cb,ak,d1,q⟩:=cv
  subst aD ak
  refine bR ?_
  clear bR
  exact q m cs ae cr (T.mono ex cb) d1 A E {s with heap:=aC,toks:=t'} R K aI cI fun v m₂ cH fh cz dz wm d3=>by refine wm.e fun f1 f2 bW g7 dL f4 fl jn=>?_;exact k v m₂ cH fh cz dz ⟨f1,ex.trans f2,bW,g7,dL.trans cb,f4,fl,jn⟩ d3
structure nj(B:bC w)(n:Nat)(f:Str)(df:List D->(D->Prop)->Prop):Prop where
 h:∃F fn,Do F/\oh B n F fn/\f∈(["len","range","str","abs","isinstance","max","min","sum","list","tuple","divmod"]:List Str)/\bootBuiltins f=some F/\(f==("__debug__":Str))=false/\f≠"__name__"/\∀ds k,df ds k->a8 fn ds k
theorem oi{df:List D->(D->Prop)->Prop}{e:Expr}{rest:List Expr}{f:Str}{p pos:Pos}{cj:cj}(aS:nj B n f df)(bp:hF B n sc (e::rest) cj)(aE:sc.lookup f=some .globalImplicit)(he:∀env,starEach (e::rest) env=(false,eval e env)::starEach rest env:=by intro Z;rfl)(bc:∀env pos,(backTo pos (starEach (e::rest) env)).any (·.1)=false:=by intro Z Z;rfl):
  bI B n sc (.Call (.Name f p) (e::rest) [] pos) (aT df cj):=fun env ok ρ g Q h=>by
 refine Nx aS.h fun F fn ahY bb hm aP hd hn eP=>?_
 skip
 have fin:∀g ds ae ρ,bE w g ds ae->df ds (fun d=>Q d ρ)->b1 B n env (call F ae) ρ g fun v ρ' ao=>∃d,Rep w ao d v/\Q d ρ':=fun g ds ae ρ aA av=>by
  refine aW (hq (eP _ _ av)) fun d hd av=>?_
  exact .op ((bb g ds ae d aA hd).mono (fun Z x=>x) fun r ao Z h=>⟨d,h,av⟩)
 refine .bind (.blt ok hm aP aE hd hn ?_)
 cases ahY with
 | blt id=>exact .se he bc ((bp env ok pos ρ g _ h).mono fun ae aY bQ Z ⟨ds,cJ,av⟩=>fin bQ ds ae aY cJ av)
 | ty T=>exact .T4 he bc ((bp env ok pos ρ g _ h).mono fun ae aY bQ Z ⟨ds,cJ,av⟩=>fin bQ ds ae aY cJ av)
theorem y7{k:Nat}(h:k<=10000):(k:Int)<2 ^ 63:=by exact afK ‹_›
noncomputable def lim{α:Type}(l:List α):Option D:=if l.length<=10000 then some (.int l.length) else none
noncomputable def c8:List D->Option D:=jC (sel none dU (fun s=>if s.length<=10000 then some (.int s.length) else none) lim lim (fun ks Z=>lim ks) g5)
noncomputable def MV:D->Option Nat:=sel none dU dU (fun l=>some l.length) (fun l=>some l.length) (fun ks Z=>some ks.length) g5
theorem yR{d:D}{v:Value}{m:Nat}{A:Around}{E:Value->Shared->Prop}{s:Shared}{K:Value->Shared->Prop}(aA:mU w g s.heap d v)(e:MV d=some m)(hs:m<=10000)(k:∀u dx,K (.int m u) {s with toks:=dx}):wpAny (model bD w) A (call (.builtin "len") [v]) K E s:=by
 refine sF (P:=fun d=>mU w g s.heap d v->_) e (fun h=>ns h) (fun Z h=>ns h) (fun Z h=>ns h) (fun l e aA=>?_) (fun l e aA=>?_) (fun ks l e aA=>?_) (fun Z Z Z h=>ns h) aA
 ·refine c0 aA fun a us y aw ai=>?_
  subst y
  cases e
  exact call_len_list aw (by rw[List.size_toArray,ai.length];exact y7 hs) (by rw[List.size_toArray,ai.length];exact k _ _)
 ·refine c0 aA fun a us y aw ai=>?_
  subst y
  cases e
  exact len_tuple aw (by rw[List.size_toArray,ai.length];exact y7 hs) (by rw[List.size_toArray,ai.length];exact k _ _)
 ·refine k5 aA fun a ae y aw ai a3 bn=>?_
  subst y
  obtain rfl:=Option.some.inj e
  have aF:(ks.zip ae).length=ks.length:=by rw[List.length_zip,ai,Nat.min_self]
  exact call_len_dict a3 aw (by exact aF.symm▸(y7 hs)) (by exact aF.symm▸(k _ _))
theorem aaX:oh (w:=w) B n (.builtin "len") c8:=fun g ds ae d aA e=>ka aA e fun a v aP e=>
 ih aP e (fun h=>ns h) (fun Z Z h=>ns h) (fun x t e=>hL e fun hs=>.int fun A E s R K aI S Z k=>len_str (Int.not_le.mpr (y7 hs)) (k _ _)) (fun l aP e=>hL e fun hs=>.int fun A E s R K aI S Z k=>yR (aP.h S) rfl hs k)
  (fun l aP e=>hL e fun hs=>.int fun A E s R K aI S Z k=>yR (aP.h S) rfl hs k) (fun ks l aP e=>hL e fun hs=>.int fun A E s R K aI S Z k=>yR (aP.h S) rfl hs k) (fun Z Z Z Z h=>ns h)
noncomputable def mV:List D->Option D:=jC (gY fun a=>some (.int (if a<0 then -a else a)))
theorem aaY:oh (w:=w) B n (.builtin "abs") mV:=fun g ds ae d aA e=>ka aA e fun a v aP e=>gI aP e fun x t e=>e0 e (.int fun A E s R K aI S Z k=>call_abs_int fun u t=>k _ _)
noncomputable def mW:List D->Option D:=zj (mI fun a b=>some (.int (if b > a then b else a)))
theorem dB.Ky{t:Sem Value}{i:Int}{Pre:Heap->Prop}(h:∀(A:Around) (E:Value->Shared->Prop) (s:Shared) (R:a7) (K:Value->Shared->Prop),dk n A->bx B g R s.heap->Pre s.heap->
  (∀u aC t',(∀b o,s.heap.get? b=some o->aC.get? b=some o)->K (.int i u) {s with heap:=aC,toks:=t'})->wpAny (model bD w) A t K E s):dB B n t g Pre fun r ao=>Rep w ao (.int i) r:=
 fun A E s R K aI S bc k=>h A E s R K aI S bc fun u aC t' jr=>k _ g aC t' (.refl _) (by exact⟨u,rfl⟩) (S.keeps jr)
theorem aaZ:oh (w:=w) B n (.builtin "max") mW:=fun g ds ae d aA e=>Cx aA e fun a b u v bp aS e=>mO bp aS e fun x t y t' e=>e0 e (.Ky fun A E s R K aI S Z k=>max_two_ints aI.1 fun aC dx jr=>by
 by_cases q:y > x
 ·rw[if_pos q] at k ⊢;exact k _ _ _ jr
 ·rw[if_neg q] at k ⊢;exact k _ _ _ jr)
@[irreducible] noncomputable def n3(lo aN st:Int):Option D:=if Builtin.Range.small lo aN st=true/\st≠0/\small st=true then some (.hA lo aN st) else none
noncomputable def sx:List D->Option D:=wY (gY fun b=>n3 0 b 1) (mI fun a b=>n3 a b 1) fun a b c=>gY (fun a=>mI (fun b c=>n3 a b c) b c) a
theorem dB.hA{lo aN st:Int}{t:Sem Value}{d:D}(e:n3 lo aN st=some d)(ht:∀(A:Around) (E:Value->Shared->Prop) (s:Shared) (K:Value->Shared->Prop),st≠0->small st=true->
  (∀a b c dx,K (.ref s.heap.objs.size) {s with heap:=s.heap.push {cls:=.type "range",data:=.fields #[.int lo a,.int aN b,.int st c]},toks:=dx})->wpAny (model bD w) A t K E s):
  dB B n t g (fun Z=>True) fun r ao=>Rep w ao d r:=by
 unfold n3 at e
 refine bS (ea e) fun hs aa0=>?_
 subst aa0
 intro A E s R K aI S Z k
 refine ht A E s K hs.2.1 hs.2.2 fun a b c dx=>?_
 refine bS ((S.push {cls:=.type "range",data:=.fields #[.int lo a,.int aN b,.int st c]}).freeze (P:=FY lo aN st) ⟨a,b,c,rfl⟩) fun cC ex=>?_
 exact k _ _ _ dx ex (by exact gu _ rfl (iE ..) hs.1) cC
theorem VP:oh (w:=w) B n (.type "range") sx:=fun g ds ae d aA e=>y4 aA e (fun a u bp e=>gI bp e fun x t e=>.hA e fun A E s K Z Z k=>call_range_1 (k _ _ _ _))
 (fun a b u v bp aS e=>mO bp aS e fun x t y t' e=>.hA e fun A E s K Z Z k=>call_range_2 (k _ _ _ _))
 fun a b c u v z bp aS bb e=>gI bp e fun x t e=>mO aS bb e fun y t' z iM e=>.hA e fun A E s K h0 hs k=>call_range_3 h0 (k _ _ _ _) (Or.inl (PyProof.noPylong_small (by have:=of_decide_eq_true hs;omega)))
theorem dB.BM{ds:List D}{t:Sem Value}{Pre:Heap->Prop}(ht:∀(A:Around) (E:Value->Shared->Prop) (s:Shared) (R:a7) (K:Value->Shared->Prop),dk n A->bx B g R s.heap->Pre s.heap->
  (∀aC c dx us,(∀b o,s.heap.get? b=some o->aC.get? b=some o)->aC.get? s.heap.objs.size=some (lst us c)->bE w g ds us->K (.ref s.heap.objs.size) {s with heap:=aC,toks:=dx})->wpAny (model bD w) A t K E s):
  dB B n t g Pre fun r ao=>Rep w ao (.list ds) r:=fun A E s R K aI S bc k=>by
 refine ht A E s R K aI S bc fun aC c dx us jr hn aA=>?_
 have cM:=S.keeps jr
 have cC:bx B g ((s.heap.objs.size,lst us c)::R) aC:=by
  refine⟨cM.base,cM.dJ,fun q aL=>?_,fun q aL=>?_,List.nodup_cons.mpr ⟨fun hm=>?_,cM.nodup⟩⟩
  ·rcases List.mem_cons.mp aL with rfl|aL
   ·exact hn
   ·exact cM.own q aL
  ·rcases List.mem_cons.mp aL with rfl|aL
   ·exact S.I4
   ·exact S.apart q aL
  ·refine aW (List.mem_map.mp hm) fun q aL e=>?_
   have:=Heap.lt_size (S.own q aL)
   exact Nat.lt_irrefl _ (e▸this)
 refine bS (cC.freeze (P:=gQ us) ⟨c,rfl⟩) fun dq ex=>?_
 exact k _ _ _ dx ex (by exact dW _ us rfl (iE ..) (aA.mono ex)) dq
noncomputable def hp:List D->Option D:=jC (sel none dU dU (fun l=>if l.length<=10000 then some (.list l) else none) dU iZ fun lo aN st=>if 0<=Builtin.Range.rangeSize lo aN st/\Builtin.Range.rangeSize lo aN st<=10000 then some (.list (eR lo aN st)) else none)
theorem bE.of_get:∀{ds:List D} {us:List Value},ds.length=us.length->(∀(i:Nat) d v,ds[i]?=some d->us[i]?=some v->Rep w g d v)->bE w g ds us
 | [],[],Z,bt=>by rfl
 | d::ds,v::us,aF,h=>by exact dW v us rfl (h 0 d v rfl rfl) (bE.of_get (by simpa using aF) fun i ui kB aw ai=>h (i+1) ui kB (by simpa using aw) (by simpa using ai))
 | [],Z::bt,aF,cD=>by simp at aF
 | Z::bt,[],aF,cD=>by simp at aF
theorem range_list{lo aN st:Int}{v:Value}(aP:Rep w g (.hA lo aN st) v)(hs:0<=Builtin.Range.rangeSize lo aN st/\Builtin.Range.rangeSize lo aN st<=10000):dB B n (call (.type "list") [v]) g (fun Z=>True) fun r ao=>Rep w ao (.list (eR lo aN st)) r:=by
 refine .BM fun A E s R K aI S Z k=>?_
 refine eT aP fun a y aw ai=>?_
 subst y
 refine aW (S.dJ _ _ aw) fun o aD y=>?_
 refine tn y fun t u x y=>?_
 subst y
 refine call_list_range (n:=(Builtin.Range.rangeSize lo aN st).toNat) aI.1 aD ai (by lia) (by lia) fun aC dx fK cV jr hn aN=>?_
 refine k aC cV dx fK.toList jr (by simpa using hn) (bE.of_get ?_ ?_)
 ·unfold eR;rw[List.length_map,List.length_range];exact aN.1.symm
 ·intro i d v hd aP
  unfold eR at hd
  rw[List.getElem?_map] at hd
  refine aW (Option.map_eq_some_iff.mp hd) fun j bL XI=>?_
  subst XI
  obtain⟨fY,rfl⟩:=List.getElem?_eq_some_iff.mp bL
  refine cQ (aN.2 i v (by simpa using aP)) fun t' ad4=>?_
  subst ad4
  rw[List.getElem_range];exact⟨t',rfl⟩
theorem XJ:oh (w:=w) B n (.type "list") hp:=fun g ds ae d aA e=>ka aA e fun a v aP e=>
 ih aP e (fun h=>ns h) (fun Z Z h=>ns h) (fun Z Z h=>ns h) (fun l aP e=>hL e fun hs=>.BM fun A E s R K aI S Z k=>c0 (aP.isList S) fun a ae y aw ai=>y▸eT aw fun o aD ak z=>cQ z fun m bz=>
  call_list_seq a (.inl rfl) aD ak bz (fun aC cV jr hn=>k aC cV _ ae jr hn ai) (List.size_toArray.symm▸ai.length.symm▸h2 hs)) (fun Z Z h=>ns h) (fun Z Z Z h=>ns h) (fun lo aN st aP e=>hL e fun hs=>range_list aP hs)
noncomputable def sy:List D->Option D:=jC (jB fun l=>if l.length<=10000 then some (.tup l) else none)
theorem VQ:oh (w:=w) B n (.type "tuple") sy:=fun g ds ae d aA e=>ka aA e fun a v aP e=>mG aP e fun l aP e=>hL e fun hs=>fun A E s R K aI S Z k=>c0 (aP.isList S) fun a ae y aw ai=>y▸
 call_tuple_list aw (fun aC jr=>bS (((S.keeps jr).push (tup ae)).freeze (P:=t7 ae) rfl) fun cC ex=>k _ _ _ _ ex (by exact dW _ ae rfl (iE ..) (ai.mono ex)) cC) (List.size_toArray.symm▸ai.length.symm▸h2 hs)
noncomputable def jd:List D->Option D:=jC (y2 (fun a=>if nP a then some (.str (Str.ofString (toString a))) else none) fun s=>some (.str s))
theorem aa1:oh (w:=w) B n (.type "str") jd:=fun g ds ae d aA e=>ka aA e fun a v aP e=>
 DV aP e (fun x t e=>hL e fun hs=>.str fun A E s R K aI S Z k=>str_of_int_fit (N:=4611686018427387904) (by have:=lF.mp hs;split <;> lia) (Int.le_refl _) fun Z=>k _ _) fun x t e=>e0 e (.str fun A E s R K aI S Z k=>PySem.P.str_of_str (k _ s.toks))
noncomputable def sX:List D->Option D:=jC (jB fun l=>(intsOf l).map fun xs=>.int xs.sum)
theorem aa2:oh (w:=w) B n (.builtin "sum") sX:=fun g ds ae d aA e=>ka aA e fun a v aP e=>mG aP e fun l aP e=>oY e fun xs aD=>.Ky fun A E s R K aI S Z k=>c0 (aP.isList S) fun a ae y aw ai=>y▸by
 have aN:=ai.ints aD
 refine cQ ((aN.allInts).items) fun ys bj=>?_
 refine sum_intListG (xs:=ys) aI.1 (bj▸aw) fun aC dx t' av=>?_
 have e:preSum (numAt ys) ys.size=xs.sum:=by
  rw[preSum_eq,List.take_of_length_le (by simp),<- nums_intItems,<- bj]
  exact congrArg _ aN.numsOf
 exact e.symm▸(k _ _ _ av)
end
section
variable {w:World} {B:bC w} {n:Nat} {env:Env} {ρ:aO} {g:G} {sc:List (Str×NameKind)}
noncomputable def y8(K:Value)(f:D->Option Bool):Prop:=∀{w:World} {B:bC w} {n:Nat} (g:G) d v c,Rep w g d v->f d=some c->dB B n (call (.builtin "isinstance") [v,K]) g (fun Z=>True) fun r ao=>r=.bool c
noncomputable def xa:D->Option Bool|.vec _ _ _=>some true|_=>none
noncomputable def Fe:D->Option Bool|.list _=>some true|.bool _=>some false|_=>none
noncomputable def Ff:D->Option Bool|.tup _=>some true|.none=>some false|.int _=>some false|.str _=>some false|_=>none
theorem Rep.BC{d:D}{v:Value}{b:String}(h:Rep w g d v):v≠.builtin b:=h.cs (P:=fun v=>v≠_) (fun Z=>nofun) (fun Z=>nofun) (fun Z Z=>nofun) (fun Z Z=>nofun) (fun Z=>nofun)
theorem aa3:y8 (.ref 311) xa:=fun {w B n} g d v c aA e=>by
 cases d <;> first|exact ns e|cases e
 refine ED aA fun a bB dT en fk aa4 aw ai Z=>?_
 subst aa4
 refine .bool fun A E s R K aI S Z k=>?_
 refine lZ (Ce S aw ai) fun t gg lv b0 bU Z=>?_
 exact isi_call (gx S) (fun M=>bU.type) (by rfl) aA.BC (k s.toks)
theorem Kz{a:Addr}{P:hP}{T:String}{l:a7}{h:Heap}(S:bx B g l h)(ga:g a=some P)(dj:∀o,P o->o.cls=.type T):KitAt a T h:=let ⟨o,aD,ak⟩:=S.dJ _ _ ga;⟨o,aD,dj o ak⟩
theorem XK:y8 (.type "list") Fe:=fun {w B n} g d v c aA e=>by
 have aF:=fun b=>aA.BC (b:=b)
 cases d <;> first|exact ns e|cases e
 ·cases aA.bool
  exact .bool fun A E s R K aI S Z k=>kia_one (K:=KF w.params) kitx_bool (gx S) trivial (by rfl) (aF _) fun dx=>k dx
 ·refine c0 aA fun a ae aa5 aw Z=>?_
  subst aa5
  exact .bool fun A E s R K aI S Z k=>kia_one (K:=KF w.params) kitx_list (gx S) (Kz S aw fun o Di=>by refine cQ Di fun k e=>?_;rw[e]) (by rfl) (aF _) fun dx=>k dx
theorem aa6:y8 (.type "tuple") Ff:=fun {w B n} g d v c aA e=>by
 have aF:=fun b=>aA.BC (b:=b)
 cases d <;> first|exact ns e|cases e
 ·cases aA.none
  exact .bool fun A E s R K aI S Z k=>kia_one (K:=KF w.params) kitx_none (gx S) trivial (by rfl) (aF _) fun dx=>k dx
 ·obtain⟨t,rfl⟩:=aA.int
  exact .bool fun A E s R K aI S Z k=>kia_one (K:=KF w.params) kitx_int (gx S) trivial (by rfl) (aF _) fun dx=>k dx
 ·obtain⟨t,rfl⟩:=aA.str
  exact .bool fun A E s R K aI S Z k=>kia_one (K:=KF w.params) kitx_str (gx S) trivial (by rfl) (aF _) fun dx=>k dx
 ·refine c0 aA fun a ae aa7 aw Z=>?_
  subst aa7
  exact .bool fun A E s R K aI S Z k=>kia_one (K:=KF w.params) kitx_tuple (gx S) (Kz S aw fun o e=>by exact congrArg _ e) (by rfl) (aF _) fun dx=>k dx
noncomputable def rj(W:bG)(f:D->Option Bool):bG:=fun ρ k=>W ρ fun d aY=>iL (f d) fun c=>k (.bool c) aY
noncomputable def CG(B:bC w)(n:Nat)(sc:List (Str×NameKind))(x:Str)(v:Value):Prop:=∀env,cS sc env->∀pos ρ g (Q:Value->aO->G->Prop),Q v ρ g->b1 B n env (eval (.Name x pos) env) ρ g Q
theorem VR(aE:sc.lookup ("Vector":Str)=some .globalImplicit):CG B n sc "Vector" (.ref 311):=fun env ok pos ρ g Q h=>.glob ok B.vec aE (by rfl) h
theorem KA{x:Str}{v:Value}(hm:x∈(["len","range","str","abs","isinstance","max","min","sum","list","tuple","divmod"]:List Str))(aP:bootBuiltins x=some v)(aE:sc.lookup x=some .globalImplicit)(hd:(x==("__debug__":Str))=false)(hn:x≠"__name__"):CG B n sc x v:=fun env ok pos ρ g Q h=>.blt ok hm aP aE hd hn h
theorem Dp{e:Expr}{x:Str}{K:Value}{f:D->Option Bool}{W:bG}{p dZ pos:Pos}(he:bI B n sc e W)(aZ:y8 K f)(hn:CG B n sc x K)(aE:sc.lookup ("isinstance":Str)=some .globalImplicit)(hs:∀env,starEach [e,.Name x dZ] env=[(false,eval e env),(false,eval (.Name x dZ) env)]:=by intro Z;rfl):bI B n sc (.Call (.Name "isinstance" p) [e,.Name x dZ] [] pos) (rj W f):=fun env ok ρ g Q h=>by
 skip
 have agb:∀env,starEach (e::[.Name x dZ]) env=(false,eval e env)::starEach [.Name x dZ] env:=fun env=>by rw[hs];rfl
 refine .bind (.blt ok (v:=.builtin "isinstance") (by decide +kernel) (by rfl) aE (by rfl) (by decide +kernel) (.se agb (fun env pos=>by rw[hs];rfl) ?_))
 rw[hs]
 refine .of_eq (t':=(do
   let v <- eval e env
   let here <- (Pure.pure [v]:Sem (List Value))
   return here++(<- PySem.holding here (do
    let u <- eval (.Name x dZ) env
    let there <- (Pure.pure [u]:Sem (List Value))
    return there++(<- PySem.holding there (Pure.pure []:Sem (List Value))))))) rfl ?_
 refine .bind ((he env ok ρ g _ h).mono fun v aY bQ Z aa8=>aW aa8 fun d hd av=>.bind (.pure (.bind (.holding (.bind (hn env ok dZ aY bQ _ (.bind (.pure (.bind (.holding (.pure (.pure (.pure ?_)))))))))))))
 exact aW (hq av) fun c bb av=>.op ((aZ bQ d v c hd bb).mono (fun Z x=>x) fun r ao Z e=>⟨.bool c,by exact e,av⟩)
noncomputable def ft(f:D->List D->Option D):D->List D->(D->Prop)->Prop:=fun d ds k=>Option.rec False k (f d ds)
theorem m7.of{name:Str}{T id:String}{f:D->List D->Option D}(xM:PlainAttrs T)(sl:Slot T name id)(ty:typeOf (.builtin id)=pure (.type "method_descriptor"))(h:∀(g:G) d ds u ae r,Rep w g d u->bE w g ds ae->f d ds=some r->dB B n (call (.builtin id) (u::ae)) g (fun Z=>True) fun x ao=>Rep w ao r x):m7 B n name T (ft f):=
 ⟨id,xM,sl,ty,fun g d ds u ae Q hd cJ aL=>by
  refine aW (hq aL) fun r aA aL=>?_
  exact(h g d ds u ae r hd cJ aA).mono (fun Z x=>x) fun x ao Z aE=>⟨r,aE,aL⟩⟩
noncomputable def oT(d:D)(ds:List D):Option D:=jB (fun l=>jC (iG fun s=>(strsOf l).map fun xs=>.int (xs.countP (·==s):Nat)) ds) d
theorem countIn_strs(s:Str):∀xs:List Str,Spec.countIn (.str s) (xs.map .str)=((xs.countP (·==s):Nat):Int)
 | []=>(by rfl)
 | x::xs=>by
  rw[List.map_cons,List.countP_cons,Spec.countIn,(countIn_strs s xs),Spec.same]
  by_cases h:(x==s)=true
  ·rw[if_pos h,if_pos h];exact Int.add_comm ..
  ·rw[if_neg h,if_neg h];exact Int.add_comm ..
theorem Ch:m7 (w:=w) B n "count" "list" (ft oT):=.of F.plainAttrs_list F.slot_list_count F.type_list_count fun g d ds u ae r hd cJ e=>
 mG hd e fun l hd e=>ka cJ e fun a v aP e=>i8 aP e fun s0 t e=>oY e fun xs aD=>.int fun A E s R K aI S Z k=>c0 (hd.isList S) fun a ae y aw ai=>y▸count_list_strs aw (ai.strs aD) (by rw[countIn_strs];exact k _ _)
noncomputable def gm:List Str->Str->Option Nat
 | [],Z=>none
 | x::xs,s=>if x=s then some 0 else (gm xs s).map (·+ 1)
theorem A3:∀{xs:List Str} {s:Str} {j:Nat},gm xs s=some j->xs[j]?=some s/\∀m<j,∀y,xs[m]?=some y->y≠s:=by
 intro es
 induction es with
 | cons x xs eo=>
  intro s j h
  unfold gm at h
  split at h
  ·rename_i e;obtain rfl:=Option.some.inj h;exact⟨by simp[e],fun m hm=>absurd hm (Nat.not_lt_zero _)⟩
  ·rename_i e
   refine aW (Option.map_eq_some_iff.mp h) fun i aN aa9=>?_
   subst aa9
   obtain⟨aw,ai⟩:=eo aN
   refine⟨by simpa using aw,fun m hm y bj=>?_⟩
   cases m with
   | zero=>simp at bj;subst bj;exact e
   | succ m=>exact ai m (Nat.lt_of_succ_lt_succ ‹_›) y (by simpa using bj)
 | nil=>
  intro Z Z h
  simp[gm] at h
noncomputable def nQ(d:D)(ds:List D):Option D:=jB (fun l=>jC (iG fun s=>(strsOf l).bind fun xs=>if xs.length<=10000 then (gm xs s).map fun j=>.int (j:Nat) else none) ds) d
theorem StrsAre.len:∀{ae:List Value} {ys:List Str},StrsAre ae ys->ae.length=ys.length
 | _,_,.nil=>rfl
 | _,_,.cons _ _ h=>by simp[StrsAre.len h]
theorem vS:∀{ae:List Value} {ys:List Str} {i:Nat} {y:Str},StrsAre ae ys->ys[i]?=some y->∃t,ae[i]?=some (.str y t)
 | _,_,0,_,.cons y t h,e=>by simp at e;subst e;exact⟨t,rfl⟩
 | _,_,i+1,_,.cons y t h,e=>by simp at e;obtain⟨u,de⟩:=vS h e;exact⟨u,by simpa using de⟩
theorem KB:m7 (w:=w) B n "index" "list" (ft nQ):=.of F.plainAttrs_list F.slot_list_index F.type_list_index fun g d ds u ae r hd cJ e=>by
 refine mG hd e fun l hd e=>ka cJ e fun a v aP e=>i8 aP e fun s0 t e=>aW (Option.bind_eq_some_iff.mp e) fun xs aD e=>bS (Dn e) fun a5 e=>oY e fun j F7=>.int fun A E s R K aI S Z k=>c0 hd fun a ae y aw ai=>y▸aW (S.dJ _ _ aw) fun o ie z=>cQ z fun c y=>?_
 subst y
 have hs:=ai.strs aD
 refine bS (A3 F7) fun f1 f2=>cQ (vS hs f1) fun u de=>?_
 have bL:=(List.getElem?_eq_some_iff.mp de).1
 have aF:=StrsAre.len hs
 refine call_meets F.slot_list_index ⟨_,ie,rfl⟩ F.entry_list_index (F.args_list_index_2 _ _) (MeetsSeq.list_index a ae.toArray c (.str _ t) (fun y=>isStrOf _ y) (fun y bj=>eq_isStrOf _ t hs y (by simpa using bj)) j (by simpa using bL) (by lia) ?_ ?_) ⟨ie,?_⟩
 ·have:ae[j]=.str s0 u:=by exact Option.some.inj ((List.getElem?_eq_getElem bL)▸de)
  simp[this,isStrOf]
 ·intro m hm fY
  have bj:xs[m]?=some (xs[m]'(by lia)):=List.getElem?_eq_getElem _
  refine cQ (vS hs bj) fun F8 Fg=>?_
  have:ae[m]=.str (xs[m]'(by lia)) F8:=by exact Option.some.inj ((List.getElem?_eq_getElem (by simpa using hm))▸Fg)
  simp[this,isStrOf,(f2 m fY _ bj)]
 ·exact k _ _
theorem IG{ks:List Str}{ds:List D}{ae:List Value}{Aq:D}{v0:Value}(s:Str)(h:bE w g ds ae)(aF:ks.length=ae.length)(h0:Rep w g Aq v0):Rep w g ((fS ks ds s).getD Aq) ((valueAt (ks.zip ae) s).getD v0):=by
 have z:=ye s h aF
 cases e:fS ks ds s with
 | none=>exact(e▸z).symm▸h0
 | some d=>rw[e] at z;exact aW z fun v dH bt=>dH.symm▸bt
noncomputable def wp(d:D)(ds:List D):Option D:=MI (fun ks l=>wY (iG fun s=>some ((fS ks l s).getD .none)) (fun a d=>iG (fun s=>some ((fS ks l s).getD d)) a) g5 ds) d
theorem abb:m7 (w:=w) B n "get" "dict" (ft wp):=.of F.plainAttrs_dict F.slot_dict_get F.type_dict_get fun g d ds u ae r hd cJ e=>
 WQ hd e fun ks l hd e=>y4 cJ e (fun a v aP e=>i8 aP e fun x t e=>e0 e (.of fun A E s R K aI S Z k=>k5 (hd.dictOf S) fun a ae y aw ai a3 bn=>y▸
   call_meetsIn F.slot_dict_get aw.mapOf.typeIs F.entry_dict_get (F.args_dict_get_2 _ _) (meets_dict_get (strKind bD w) a (o1 x t) a3) ⟨_,aw.mapOf,k _ _ (IG x bn ai rfl)⟩))
  (fun a b v kB aP aS e=>i8 aP e fun x t e=>e0 e (.of fun A E s R K aI S Z k=>k5 (hd.dictOf S) fun a ae y aw ai a3 bn=>y▸
   call_meetsIn F.slot_dict_get aw.mapOf.typeIs F.entry_dict_get (F.args_dict_get_3 _ _ _) (meets_dict_get_default (strKind bD w) a (o1 x t) a3 kB) ⟨_,aw.mapOf,k _ _ (IG x bn ai aS)⟩)) (fun Z Z Z Z Z Z Z Z Z h=>ns h)
noncomputable def mL(d:D)(ds:List D):Option D:=iG (fun s=>jC (jB fun l=>(strsOf l).bind fun xs=>if (xs.map (·.length)).sum+xs.length * s.length<=100000 then some (.str (Txt.join s xs)) else none) ds) d
theorem XM:m7 (w:=w) B n "join" "str" (ft mL):=.of F.plainAttrs_str F.slot_str_join F.type_str_join fun g d ds u ae r hd cJ e=>
 i8 hd e fun s0 t e=>ka cJ e fun a v aP e=>mG aP e fun l aP e=>aW (Option.bind_eq_some_iff.mp e) fun xs aD e=>hL e fun a5=>.str fun A E s R K aI S Z k=>c0 (aP.isList S) fun a ae y aw ai=>y▸join_list aw (by simpa using ai.strs aD) (by exact bO ‹_›) fun t' k'=>k _ _
noncomputable def CH(d:D)(ds:List D):Option D:=iG (fun s=>zj (fun a b=>gY (fun i=>iG (fun f=>if f=(Str.mk #[48])/\0<=i/\i<=s.length/\i<=1000 then some (.str s) else none) b) a) ds) d
theorem VS:m7 (w:=w) B n "rjust" "str" (ft CH):=.of F.plainAttrs_str F.slot_str_rjust F.type_str_rjust fun g d ds u ae r hd cJ e=>
 i8 hd e fun s0 t e=>Cx cJ e fun a b v kB bp aS e=>gI bp e fun i t' e=>i8 aS e fun f iM e=>hL e fun a5=>Ez a5 fun y h0 aw ai=>y▸.str fun A E s R K aI S Z k=>by
 refine call_gives F.slot_str_rjust (typeIs_str _ _ _) F.entry_str_rjust (F.args_str_rjust_3 _ _ _) (gives_str_rjust3 _ _ 48 _ _ _ (by simp;lia) (by simp[Builtin.Str.tooLong,sizeLine_eq];lia)) ?_
 exact(if_pos aw).symm▸(k _ s.toks)
noncomputable def dd(f:List D->List D->Option (D×List D)):List D->List D->(D->List D->Prop)->Prop:=fun l ds k=>Option.rec False (fun r=>k r.1 r.2) (f l ds)
theorem od.of{name:Str}{id:String}{f:List D->List D->Option (D×List D)}(sl:Slot "list" name id)(ty:typeOf (.builtin id)=pure (.type "method_descriptor"))(h:∀(g:G) a l ds us ae k r l',bE w g l us->bE w g ds ae->f l ds=some (r,l')->∀(A:Around) (E:Value->Shared->Prop) (s:Shared) (R:a7) (K:Value->Shared->Prop),dk n A->bx B g ((a,lst us k)::R) s.heap->
   (∀v ku k' aC t',Rep w g r v->bE w g l' ku->Heap.SameBut a s.heap aC->aC.get? a=some (lst ku k')->K v {s with heap:=aC,toks:=t'})->wpAny (model bD w) A (call (.builtin id) (.ref a::ae)) K E s):od B n name (dd f):=
 ⟨id,sl,ty,fun g a l ds ae b2 Q cW cJ aL=>by
  refine aW (hq aL) fun r aA aL=>?_
  refine dc cW fun us k XN Fh=>?_
  subst XN
  intro A E s R K aI S b0
  exact h g a l ds us ae k r.1 r.2 Fh cJ aA A E s R K aI S fun v ku k' aC t' aP aF hs cR=>b0 v g [(a,lst ku k')] aC t' ⟨.refl _,r.1,r.2,aP,hx ku k' rfl aF,aL⟩ (S.update hs cR)⟩
noncomputable def d9(l ds:List D):Option (D×List D):=jC (fun d=>if l.length<=10000 then some (.none,l++[d]) else none) ds
theorem BO:od (w:=w) B n "append" (dd d9):=.of F.slot_list_append F.type_list_append fun g a l ds us ae k r l' aF cJ e A E s R K aI S b0=>ka cJ e fun d v aP e=>by
 refine bS (ea e) fun a5 y=>?_
 cases y
 refine wpAny_list_append_plain (items:=us.toArray) ⟨k,S.own (a,_) (.head _)⟩ (fun aC eE gd=>?_) (by exact List.size_toArray.symm▸aF.length.symm▸(h2 a5))
 refine cQ eE fun k' ez=>?_
 exact b0 _ (us++[v]) k' aC s.toks (by rfl) (aF.snoc aP) gd (by rw[ez];simp[lst])
noncomputable def BP(l ds:List D):Option (D×List D):=match ds with|[]=>if l.length<=10000 then some (.none,l.reverse) else none|_::_=>none
theorem bE.rev:∀{l:List D} {ae:List Value},bE w g l ae->bE w g l.reverse ae.reverse:=by
 intro es
 induction es with
 | nil=>
  intro ae h
  subst h;rfl
 | cons d l eo=>
  intro ae h
  refine c0 h fun v r XO aw ai=>?_;subst XO;rw[List.reverse_cons,List.reverse_cons];exact(eo ai).snoc aw
theorem vC{h:Heap}{a:Addr}{us:List Value}{k:Nat}{f:Array Value->Array Value}(e:h.get? a=some (lst us k)):∃k',(h.update a (Obj.mapSeq f)).get? a=some (lst (f us.toArray).toList k'):=by
 rw[Heap.get?_update_self _ e rfl];exact⟨_,rfl⟩
theorem T5:od (w:=w) B n "reverse" (dd BP):=.of F.slot_list_reverse F.type_list_reverse fun g a l ds us ae k r l' aF cJ e A E s R K aI S b0=>by
 cases ds with
 | cons Z bt=>exact ns e
 | nil=>
 refine bS (ea e) fun a5 Da=>?_
 cases Da
 subst cJ
 have bp:=S.own (a,_) (.head _)
 refine call_meets F.slot_list_reverse ⟨_,bp,rfl⟩ F.entry_list_reverse (F.args_list_reverse_1 _) (AutoListH.list_reverse_list_0 a us.toArray k (by exact List.size_toArray.symm▸aF.length.symm▸(h2 a5))) ⟨bp,?_⟩
 refine cQ (vC (f:=fun x=>x.reverse) bp) fun k' ez=>?_
 exact b0 _ us.reverse k' _ _ (by rfl) aF.rev (Heap.SameBut.update ..) (by rw[ez];simp)
noncomputable def sk(l ds:List D):Option (D×List D):=jC (jB fun m=>if l.length+m.length<=10000 then some (.none,l++m) else none) ds
theorem UM:od (w:=w) B n "extend" (dd sk):=.of F.slot_list_extend F.type_list_extend fun g a l ds us ae k r l' aF cJ e A E s R K aI S b0=>ka cJ e fun d v aP e=>mG aP e fun m aP e=>by
 refine bS (ea e) fun a5 y=>?_
 cases y
 have bp:=S.own (a,_) (.head _)
 refine c0 aP fun b ws y aw ai=>y▸aW (S.dJ _ _ aw) fun o ie z=>cQ z fun c y=>?_
 subst y
 have f3:=aF.length.symm▸ai.length.symm▸a5
 refine call_meets F.slot_list_extend ⟨_,bp,rfl⟩ F.entry_list_extend (F.args_list_extend_2 _ _) (AutoSeq1.list_extend_list_list_0 a us.toArray k b ws.toArray c ?_ ?_ ?_) ⟨bp,ie,?_⟩
 ·simp[Builtin.List.listTooLong,sizeLine_eq];lia
 ·exact List.size_toArray.symm▸(h2 (Nat.le_trans (Nat.le_add_right _ _) f3))
 ·exact List.size_toArray.symm▸List.size_toArray.symm▸(Nat.le_succ_of_le (h2 f3))
 ·exact cQ (vC (f:=fun x=>x++ws.toArray) bp) fun k' ez=>b0 _ (us++ws) k' _ _ (by rfl) (aF.app ai) (Heap.SameBut.update ..) (by rw[ez];simp)
noncomputable def vD(l ds:List D):Option (D×List D):=zj (fun a d=>gY (fun i=>if l.length<=10000/\0<=i/\i<=l.length then some (.none,l.take i.toNat++d::l.drop i.toNat) else none) a) ds
theorem UN:od (w:=w) B n "insert" (dd vD):=.of F.slot_list_insert F.type_list_insert fun g a l ds us ae k r l' aF cJ e A E s R K aI S b0=>Cx cJ e fun Aq d v u aP de e=>gI aP e fun i t e=>by
 refine bS (ea e) fun a5 y=>?_
 cases y
 have bp:=S.own (a,_) (.head _)
 refine call_meets F.slot_list_insert ⟨_,bp,rfl⟩ F.entry_list_insert (F.args_list_insert_3 _ _ _) (AutoListH.list_insert_list_int_val_1 a us.toArray k i t u (by simp[Builtin.List.listFitsIndex];lia) (by exact List.size_toArray.symm▸aF.length.symm▸(h2 a5.1))) ⟨bp,?_⟩
 refine cQ (vC (f:=fun xs=>have k:=if i<0 then (i+(xs.size:Int)).toNat else min i.toNat xs.size;(xs.extract 0 k).push u++xs.extract k) bp) fun k' ez=>?_
 refine b0 _ (us.take i.toNat++u::us.drop i.toNat) k' _ _ (by rfl) ((aF.take _).app (by exact dW _ _ rfl de (aF.drop _))) (Heap.SameBut.update ..) ?_
 rw[ez]
 have ai:min i.toNat us.length=i.toNat:=by have:=aF.length;lia
 have a3:List.take (us.length - i.toNat) (List.drop i.toNat us)=List.drop i.toNat us:=List.take_of_length_le (by exact List.length_drop.symm▸(Nat.le_refl _))
 simp[(show ¬i<0 from by lia),ai,a3]
end
section
variable {w:World} {B:bC w} {n:Nat} {env:Env} {ρ:aO} {g:G} {sc:List (Str×NameKind)}
noncomputable def pN(B:bC w)(n:Nat)(sc:List (Str×NameKind))(op:BoolOp)(bw:List Expr)(W:bG):Prop:=∀env,cS sc env->∀pos ρ g Q,W ρ Q->b1 B n env (boolOp pos op (evalEach bw env)) ρ g fun v ρ' ao=>∃d,Rep w ao d v/\Q d ρ'
noncomputable def n4(W R:bG):bG:=fun ρ k=>W ρ fun d aY=>tD (fun b=>jj b (R aY k) (k (.bool false) aY)) d
noncomputable def tL(W R:bG):bG:=fun ρ k=>W ρ fun d aY=>tD (fun b=>jj b (k (.bool true) aY) (R aY k)) d
theorem abd{op:BoolOp}{x:Expr}{W:bG}(h:bI B n sc x W):pN B n sc op [x] W:=fun env ok pos ρ g Q aL=>h env ok ρ g Q aL
theorem JL{d:D}{k:Bool->Prop}(h:tD k d):∃b,d=.bool b/\k b:=by cases d <;> first|exact⟨_,rfl,h⟩|exact h.elim
theorem v_and{x y:Expr}{r:List Expr}{W R:bG}(h:bI B n sc x W)(aA:pN B n sc .And (y::r) R):pN B n sc .And (x::y::r) (n4 W R):=fun env ok pos ρ g Q aL=>by
 refine .of_eq (t':=(do
  let v <- eval x env
  PySem.standAt pos
  let t <- PySem.holding [v] (truthy v)
  match BoolOp.And,t with
  | .And,false|.Or,true=>pure v
  | Z,bt=>boolOp pos .And (evalEach (y::r) env))) rfl (.bind ((h env ok ρ g _ aL).mono fun v aY bQ Z E0=>aW E0 fun d hd cn=>.standAt (.bind (.holding ?_))))
 refine aW (JL cn) fun b l8 cn=>?_
 subst l8
 cases hd.bool
 refine .yd ?_
 cases b
 ·exact .pure ⟨_,by rfl,cn⟩
 ·exact aA env ok pos aY bQ _ cn
theorem v_or{x y:Expr}{r:List Expr}{W R:bG}(h:bI B n sc x W)(aA:pN B n sc .Or (y::r) R):pN B n sc .Or (x::y::r) (tL W R):=fun env ok pos ρ g Q aL=>by
 refine .of_eq (t':=(do
  let v <- eval x env
  PySem.standAt pos
  let t <- PySem.holding [v] (truthy v)
  match BoolOp.Or,t with
  | .And,false|.Or,true=>pure v
  | Z,bt=>boolOp pos .Or (evalEach (y::r) env))) rfl (.bind ((h env ok ρ g _ aL).mono fun v aY bQ Z wq=>aW wq fun d hd cn=>.standAt (.bind (.holding ?_))))
 refine aW (JL cn) fun b ad5 cn=>?_
 subst ad5
 cases hd.bool
 refine .yd ?_
 cases b
 ·exact aA env ok pos aY bQ _ cn
 ·exact .pure ⟨_,by rfl,cn⟩
theorem abe{op:BoolOp}{bw:List Expr}{pos:Pos}{W:bG}(h:pN B n sc op bw W):bI B n sc (.BoolOp op bw pos) W:=fun env ok ρ g Q aL=>.of_eq rfl (h env ok pos ρ g Q aL)
noncomputable def D6:D->Option D|.bool b=>some (.bool (!b))|_=>none
theorem abf:l3 (w:=w) B n (unaryOp .Not) (f1 D6):=.of fun g a u d b8 e=>by
 cases a <;> simp only[D6] at e <;> cases e
 cases b8.bool
 exact .of fun A E s R K aI S Z k=>not_of (wpAny_truthy_bool (k _ s.toks (by rfl)))
noncomputable def ja(x:Nat)(W:bG):bG:=fun ρ k=>tC (bT ρ x) fun a Z=>W ρ fun i aY=>tC (bT aY x) fun b l=>b=a/\iL (item (.list l) i) fun d=>k d aY
theorem XQ{x:Nat}{s:Str}{p pos:Pos}{slice:Expr}{W:bG}(aE:nm x=s)(aN:isVar sc s=true)(aA:bI B n sc slice W)(hs:∀o i,subscripted slice false o i=operate [o,i] (getItem o i):=by intro Z Z;rfl):
  bI B n sc (.Subscript (.Name s p) slice pos) (ja x W):=fun env ok ρ g Q h=>by
 subst aE
 refine v2 h fun a Am aF h=>.bind (.name ok aN aF fun v (aP:v=.ref a)=>?_)
 subst aP
 refine .bind (.holding ((aA env ok ρ g _ h).mono fun v aY bQ ex z=>aW z fun i F9 av=>.standAt ?_))
 refine v2 av fun b l kr aw=>bS aw fun y ai=>aW (hq ai) fun d hd a3=>?_
 subst y
 refine .sG (Pre:=fun h=>∃us b0,h.get? b=some (lst us b0)/\bE w bQ l us) (fun ae ms h l' bu hm S=>?_) (.of fun A E s R K aI S z k=>dc z fun us b0 aD ak=>gI (f:=mK l) F9 hd fun i t hd=>item_list hs (gu _ aD rfl ⟨b0,rfl⟩) ak hd fun u de=>k u s.toks ⟨d,de,a3⟩)
 exact fq (gV bu kr) fun u m₁ m₂ Z z bz Z=>bS z fun Z z=>dc z fun us b0 b5 dQ=>hx us b0 (hm (b,lst us b0) (bz.mem_iff.mpr (by rw[b5];exact .head _))) dQ
noncomputable def Ga:O->Option D|.list l=>some (.list l)|.dict ks l=>some (.dict ks l)|_=>none
noncomputable def ad6(o:O):Option Nat:=(Ga o).bind MV
noncomputable def sL(x:Nat):bG:=fun ρ k=>kk (bT ρ x) fun a o=>iL (ad6 o) fun m=>dO (pp m) (k (.int m) ρ)
theorem fB.h{a:Addr}{o:O}{d:D}{ms:a7}{h:Heap}(cW:fB w g a o ms)(e:Ga o=some d)(hm:∀q∈ms,h.get? q.1=some q.2):mU w g h d (.ref a):=by
 cases o with
 | list l=>injection e with e;subst e;exact dc cW fun us b0 y ai=>dW a us rfl (gu _ (hm (a,lst us b0) (by rw[y];exact .head _)) rfl ⟨b0,rfl⟩) ai
 | dict ks l=>injection e with e;subst e;exact k5 cW fun ae o y ai a3 bn bN=>tu a ae rfl (jW.dictOf (hm (a,o) (by rw[y];exact .head _)) ai) a3 bn bN
 | _=>exact ns e
theorem XR{x:Nat}{s:Str}{p dZ pos:Pos}(aE:nm x=s)(aN:isVar sc s=true)(cR:sc.lookup ("len":Str)=some .globalImplicit):bI B n sc (.Call (.Name "len" p) [.Name s dZ] [] pos) (sL x):=fun env ok ρ g Q h=>by
 subst aE
 refine kZ h fun a o aF h=>aW (hq h) fun m hm h=>?_
 refine .bind (.blt ok (v:=.builtin "len") (by decide +kernel) (by rfl) cR (by rfl) (by decide +kernel) (.se (fun Z=>rfl) (fun Z Z=>rfl) ?_))
 refine .of_eq (t':=(do
  let v <- eval (.Name (nm x) dZ) env
  let here <- (Pure.pure [v]:Sem (List Value))
  return here++(<- PySem.holding here (Pure.pure []:Sem (List Value))))) rfl ?_
 refine .bind (.name ok aN aF fun v (aP:v=.ref a)=>.bind (.pure (.bind (.holding (.pure (.pure ?_))))))
 subst aP
 exact aW (Option.bind_eq_some_iff.mp hm) fun d aD ak=>.NR (Pre:=fun h=>mU w g h d (.ref a)) aF (fun b h aS ib=>aS.h aD ib) (.of fun A E s R K aI S z k=>yR z ak (m1 h).1 fun t dx=>k _ dx ⟨_,by exact⟨t,rfl⟩,(m1 h).2⟩)
noncomputable def MX(s:D)(o:O):Option Bool:=(Ga o).bind (mem s)
noncomputable def o7(neg:Bool)(W:bG)(x:Nat):db:=fun ρ k=>W ρ fun d aY=>kk (bT aY x) fun Z o=>iL (MX d o) fun b=>k (bif neg then !b else b) aY
theorem Dq{x:Nat}{s:Str}{p pos:Pos}{l:Expr}{neg:Bool}{W:bG}(aF:bI B n sc l W)(aE:nm x=s)(aN:isVar sc s=true):ST B n sc (.Compare l [if neg then .NotIn else .In] [.Name s p] pos) (o7 neg W x):=fun env ok ρ g Q h=>by
 subst aE
 refine .bind ((aF env ok ρ g _ h).mono fun u aY bQ Z z=>aW z fun a b8 cn=>.bind (.holding ?_))
 refine kZ cn fun b o tI cn=>aW (hq cn) fun c bb cn=>aW (Option.bind_eq_some_iff.mp bb) fun d aD ak=>?_
 refine .name ok aN tI fun v (aP:v=.ref b)=>.standAt (.bind (.operate ?_))
 subst aP
 exact .NR (Q:=fun r ρ' ao=>b1 B n env (PySem.holding [r] (truthy r)) ρ' ao fun v ρ' ao=>Q v ρ') (Pre:=fun h=>mU w bQ h d (.ref b)) tI (fun b h aS ib=>aS.h aD ib)
  (.of fun A E s R K aI S z k=>CF neg aI S b8 z ak fun dx=>k _ dx (.holding (.yd cn)))
end
section
variable {w:World} {B:bC w} {n:Nat} {env:Env} {ρ:aO} {g:G} {sc:List (Str×NameKind)}
theorem dB.newList{ds:List D}{t:Sem Value}{Pre:Heap->Prop}(ht:∀(A:Around) (E:Value->Shared->Prop) (s:Shared) (R:a7) (K:Value->Shared->Prop),dk n A->bx B g R s.heap->Pre s.heap->
  (∀us c dx,bE w g ds us->K (.ref s.heap.objs.size) {s with heap:=s.heap.push (lst us c),toks:=dx})->wpAny (model bD w) A t K E s):
  dB B n t g Pre fun r ao=>Rep w ao (.list ds) r:=.BM fun A E s R K aI S bc k=>ht A E s R K aI S bc fun us c dx aA=>k _ c dx us (fun b o e=>Heap.get?_push_of_some _ e) (Heap.get?_push_size _ rfl) aA
noncomputable def c7(a b:D):Option D:=sel none (fun x=>gY (fun y=>some (.int (x+y))) b) (fun x=>iG (fun y=>if x.length+y.length<=100000 then some (.str (x++y)) else none) b)
 (fun x=>jB (fun y=>if x.length+y.length<=10000 then some (.list (x++y)) else none) b) dU iZ g5 a
theorem dB.gZ{l m:List D}{u v:Value}(b8:Rep w g (.list l) u)(cc:Rep w g (.list m) v)(a5:l.length+m.length<=10000):dB B n (binaryOp .Add u v) g (fun Z=>True) fun r ao=>Rep w ao (.list (l++m)) r:=by
 refine .newList fun A E s R K aI S Z k=>c0 b8 fun p us y aw ai=>c0 cc fun q ae rK a3 bn=>aW (S.dJ _ _ aw) fun o ie z=>cQ z fun c fG=>aW (S.dJ _ _ a3) fun o rP z=>cQ z fun cV rQ=>?_
 subst y rK fG rQ
 refine concat_meets ⟨_,ie,rfl⟩ ⟨_,rP,rfl⟩ noFill_list_add seq_list_add PySem.F.slot_list_add PySem.F.entry_list_add (PySem.F.args_list_add_2 _ _) (list_addW p q us.toArray ae.toArray c cV none none #[] #[] (by
  exact List.size_toArray.symm▸List.size_toArray.symm▸ai.length.symm▸bn.length.symm▸(h2 a5))) ⟨ie,rP,?_⟩
 have:=k (us++ae) 0 s.toks (ai.app bn)
 simpa [lst] using this
theorem Lk:fi (w:=w) B n (binaryOp .Add) (f2 c7):=.of fun g a b u v d b8 cc e=>
 ih b8 e (fun h=>ns h) (fun x t e=>gI cc e fun y t' e=>e0 e .adW) (fun x t e=>i8 cc e fun y t' e=>hL e fun a5=>.adX a5) (fun l b8 e=>mG cc e fun m cc e=>hL e fun a5=>.gZ b8 cc a5) (fun Z Z h=>ns h) (fun Z Z Z h=>ns h) (fun Z Z Z Z h=>ns h)
noncomputable def Dr(a b:D):Option D:=jB (jC fun d=>gY (fun b=>if 0<=b/\b<=1000 then some (.list (List.replicate b.toNat d)) else none) b) a
theorem bE.repl{d:D}{v:Value}(h:Rep w g d v):∀k,bE w g (List.replicate k d) (List.replicate k v)
 | 0=>by rfl
 | k+1=>by exact dW v _ rfl h (bE.repl h k)
theorem IH(v:Value):∀(k:Nat) (acc:Array Value),(List.foldl (fun ad af=>ad++af) acc (List.replicate k #[v])).toList=acc.toList++List.replicate k v
 | 0,acc=>by simp
 | k+1,acc=>by rw[List.replicate_succ,List.foldl_cons,IH v k];simp[List.replicate_succ]
theorem XS:fi (w:=w) B n (binaryOp .Mult) (f2 Dr):=.of fun g a b u v d b8 cc e=>by
 refine mG b8 e fun l b8 e=>c0 b8 fun p us y aw ai=>y▸ka (P:=fun us=>g p=some (gQ us)->_) ai e (fun Aq v aP e aw=>gI cc e fun x t e=>hL e fun a5=>?_) aw
 refine .newList fun A E s R K aI S Z k=>aW (S.dJ _ _ aw) fun o ie z=>cQ z fun c y=>?_
 subst y
 have aF:=ie
 refine wpAny_binaryOp_repeat_ref (T:="list") (U:="int") (by decide) ⟨_,aF,rfl⟩ (fun bP=>typeIs_int bP x t) noFill_list_mul F.fills_int_mul F.slot_int_rmul repeat_list F.slot_int_index.lookup
  (call_meets F.slot_int_rmul (typeIs_int s x t) F.entry_int_rmul (F.args_int_rmul_2 _ _) (int___rmul___int_list x t p #[v] c)
   ⟨aF,rfl,⟨_,aF,rfl⟩,call_meets F.slot_list_mul ⟨_,aF,rfl⟩ F.entry_list_mul (F.args_list_mul_2 _ _)
    (AutoListH.list___mul___list_int_3 p #[v] c x t (by simp[Builtin.List.listFitsIndex];lia) (by have:(#[v]:Array Value).size=1:=rfl;refine this.symm▸?_;lia) (by have:(#[v]:Array Value).size=1:=rfl;refine this.symm▸?_;skip;simp[Builtin.List.listTooLong,sizeLine_eq];lia))
    ⟨aF,?_⟩⟩)
 have e:({cls:=.type "list",data:=.seq (List.foldl (fun ad af=>ad++af) #[] (List.replicate (if (#[v]:Array Value).isEmpty=true then 0 else x.toNat) #[v]))}:Obj)=lst (List.replicate x.toNat v) 0:=by
  have z:(List.foldl (fun ad af=>ad++af) #[] (List.replicate x.toNat #[v]))=(List.replicate x.toNat v).toArray:=by
   rw[<- Array.toList_inj,IH];simp
  show lst _ 0=lst _ 0
  simp[z]
 exact e▸k _ 0 s.toks (bE.repl aP _)
noncomputable def vT(B:bC w)(n:Nat)(sc:List (Str×NameKind))(ks:List Str)(bw:List (Option Expr))(vals:List Expr)(W:cj):Prop:=∀env,cS sc env->∃pairs:List (Sem Value×Sem Value),pairs.length=ks.length/\
 (∀pos,(evalEachOpt bw env).zip ((evalEach vals env).map fun v=>do let x <- v;PySem.standAt pos;pure x)=(pairs.map fun p=>(some p.1,do let x <- p.2;PySem.standAt pos;pure x)))/\
 ∀(pos:Pos) ρ g Q,W ρ Q->b1 B n env (evalPairs (pairs.map fun p=>(p.1,do let x <- p.2;PySem.standAt pos;pure x))) ρ g fun ae ρ' ao=>∃ds us,Carries (strKind bD w) ae (ks.zip us)/\ks.length=us.length/\bE w ao ds us/\Q ds ρ'
theorem abg:vT B n sc [] [] [] az:=fun env ok=>gu [] rfl (fun Z=>rfl) (fun pos ρ g Q h=>.of_eq (t':=(Pure.pure []:Sem _)) rfl (.pure ⟨[],[],trivial,rfl,by rfl,h⟩))
theorem XT{x:Str}{ks:List Str}{k:Nat}{p:Pos}{bw:List (Option Expr)}{e:Expr}{vals:List Expr}{W:bG}{R:cj}(h:bI B n sc e W)(aA:vT B n sc ks bw vals R):
  vT B n sc (x::ks) (some (.Constant (.str x) k p)::bw) (e::vals) (aj W R):=fun env ok=>by
 refine eT (aA env ok) fun pairs aw ai a3=>?_
 refine gu ((eval (.Constant (.str x) k p) env,eval e env)::pairs) (by simp[aw]) (fun pos=>?_) (fun pos ρ g Q aL=>?_)
 ·rw[List.map_cons,<- ai pos];rfl
 ·skip
  show b1 B n env (do
   let dT <- eval (.Constant (.str x) k p) env
   let O5 <- PySem.holding [dT] (do let x <- eval e env;PySem.standAt pos;pure x)
   return (dT,O5)::(<- PySem.holding [dT,O5] (evalPairs (pairs.map fun p=>(p.1,do let x <- p.2;PySem.standAt pos;pure x))))) _ _ _
  refine .bind ((q1 (B:=B) (n:=n) (sc:=sc) env ok ρ g (fun d ρ'=>d=.str x/\ρ=ρ') ⟨rfl,rfl⟩).mono fun dT aY bQ Z cv=>?_)
  refine eT cv fun d hd aD ak=>?_
  subst aD ak
  refine cQ hd.str fun t D7=>?_
  subst D7
  refine .bind (.holding (.bind ((h env ok _ bQ _ aL).mono fun v bW cH Z Dg=>aW Dg fun d hd cz=>.standAt (.pure (.bind (.holding ((a3 pos bW cH _ cz).mono fun ae uh mn ex abh=>zG abh fun ds us fH c2 eL Gb=>.pure ?_)))))))
  exact tr (d::ds) (v::us) ⟨o1 x t,rfl,fH⟩ (by simp[c2]) (by exact dW v us rfl (hd.mono ex) eL) Gb
theorem stored_new{m0:List (Str×Value)}{k:Str}{v:Value}(h:k∉m0.map (·.1)):stored m0 k v=m0++[(k,v)]:=by
 unfold stored
 rw[if_neg]
 intro aL
 refine aW (List.any_eq_true.mp aL) fun dT hm e=>?_
 exact h (List.mem_map.mpr ⟨dT,hm,by simpa using e⟩)
theorem HL:∀(more acc:List (Str×Value)),(acc.map (·.1)++more.map (·.1)).Nodup->merged acc more=acc++more
 | [],acc,Z=>by simp[merged]
 | (k,v)::more,acc,h=>by
  have hn:k∉acc.map (·.1):=fun hm=>by
   rw[List.nodup_append] at h
   exact h.2.2 k hm k (.head _) rfl
  show merged (stored acc k v) more=_
  rw[stored_new hn,HL more (acc++[(k,v)]) (by simpa using h)]
  simp
theorem x9:∀{ks:List Str} {us:List Value},ks.length=us.length->(ks.zip us).map (·.1)=ks
 | [],[],Z=>rfl
 | k::ks,u::us,h=>by rw[List.zip_cons_cons,List.map_cons,x9 (by simpa using h)]
 | [],Z::bt,h=>by simp at h
 | Z::bt,[],h=>by simp at h
noncomputable def sM(ks:List Str)(R:cj):bG:=fun ρ k=>R ρ fun ds aY=>k (.dict ks ds) aY
theorem XU{ks:List Str}{bw:List (Option Expr)}{vals:List Expr}{pos:Pos}{R:cj}(h:vT B n sc ks bw vals R)(hn:ks.Nodup:=by decide +kernel)(h0:ks≠[]:=by decide +kernel)(a5:ks.length<=15:=by decide +kernel):bI B n sc (.Dict bw vals pos) (sM ks R):=fun env ok ρ g Q aL=>by
 refine eT (h env ok) fun pairs aw ai a3=>?_
 intro m cs ae ms T bu A E s RR K aI F k
 refine wpAny_Dict_pairs (knd:=strKind bD w) (pairs:=pairs.map fun p=>(p.1,do let x <- p.2;PySem.standAt pos;pure x)) (by rw[ai pos,List.map_map];rfl) (by intro e;rw[List.map_eq_nil_iff] at e;subst e;exact h0 (List.length_eq_zero_iff.mp aw.symm)) (by rw[List.length_map,aw];exact a5) ?_
 refine aW F.open fun cm S c=>?_
 have cM:=S.push {cls:=.type "dict",data:=.dict #[]}
 have MY:=BL _ fun b x aE=>Heap.lt_size (S.stays _ _ aE)
 generalize kF:s.heap.objs.size=j3 at cM MY ⊢
 have kG:cB B env.locals m g ((cs++ms)++((j3,{cls:=.type "dict",data:=.dict #[]})::RR)) (s.heap.push {cls:=.type "dict",data:=.dict #[]}):=by
  have cC:bx B g ((env.locals,cm)::((cs++ms)++((j3,{cls:=.type "dict",data:=.dict #[]})::RR))) (s.heap.push {cls:=.type "dict",data:=.dict #[]}):=cM.perm (by
   refine(List.Perm.swap _ _ _).trans (List.Perm.cons _ ?_)
   exact List.perm_middle.symm)
  exact cB.close cC (c _ (cC.own (env.locals,cm) (.head _)))
 refine g4 fun ai7 abi=>?_
 refine(a3 pos ρ g _ aL).go (s:={s with heap:=s.heap.push {cls:=.type "dict",data:=.dict #[]}}) T bu aI kG fun m0 ao ρ' cr aC t' ex cb hb d1 z cI=>zG z fun ds us fH c2 eL Gb=>?_
 refine abi _ _ ?_
 refine gu _ fH ⟨_,#[],0,(cI.cb.own (j3,{cls:=.type "dict",data:=.dict #[]}) (by exact List.mem_append_right _ List.mem_cons_self)),⟨rfl,rfl,rfl⟩,rfl,fun Z he=>by simp at he,Pairs.nil,List.nodup_nil⟩ (fun gw hd hs=>?_)
 rw[HL _ _ (by simpa [x9 c2] using hn),List.nil_append] at hd
 refine cps fun ed bR=>?_
 refine iJ hd fun bK es' ep f1 f2=>?_
 refine aW cI.open fun N5 bZ cV=>?_
 refine bS (((bZ.perm (l':=(j3,{cls:=.type "dict",data:=.dict #[]})::((env.locals,N5)::((cs++cr)++RR))) (by exact List.cons_append▸List.perm_middle)).update hs f1).freeze (P:=Eq bK) rfl) fun dq e1=>?_
 refine bR ?_
 clear bR
 exact k _ m _ (cs++cr) gw _ ⟨rfl,ex.trans e1,ρ',cr,cb,rfl,d1.mono e1,.dict ks ds,by exact wU j3 us bK rfl (iE ..) ⟨es',ep,f2⟩ c2 MY (eL.mono e1),Gb⟩ (cB.close dq (cV _ (dq.own (env.locals,N5) (.head _))))
noncomputable def Fi(W1:bG)(x:Str)(ef:bG):bG:=fun ρ k=>W1 ρ fun a aY=>iL (isInt a) fun i=>dO (nP i) (ef aY fun b bW=>iL (isStr b) fun s=>dO (pp s.length) (k (.str (Str.ofString (toString i)++x++s)) bW))
theorem ad7{aD ak:Expr}{x:Str}{b0:Nat}{p aH aK pos:Pos}{W1 ef:bG}(aw:bI B n sc aD W1)(ai:bI B n sc ak ef)(aE:x.length<=100:=by decide +kernel):
  bI B n sc (.JoinedStr [.FormattedValue aD (-1) none aH,.Constant (.str x) b0 p,.FormattedValue ak (-1) none aK] pos) (Fi W1 x ef):=fun env ok ρ g Q aL=>by
 intro m cs ae ms T bu A E s RR K aI F k
 refine wpAny_JoinedStr (wpAny_FormattedValue_plain ((aw env ok ρ g _ aL).go T bu aI F fun v bQ aY E4 cn ic eI pt rO ry z kG=>?_))
 refine aW z fun a b8 oy=>aW (hq oy) fun i aN ml=>bS (eu ml) fun hs ahZ=>gI b8 aN fun ah0 t e=>?_
 cases e
 have gd:i.natAbs<10 ^ 19:=by have:=lF.mp hs;lia
 have aN:(Str.ofString (toString i)).length<=100:=by rw[PySem.ofString_length];exact Nat.le_trans (int_text_length_le10 (by decide) gd) (by decide)
 refine wpAny_formatField_int (by by_cases h0:i.natAbs=0;(·rw[h0];decide);(·exact(Nat.log2_lt h0).mpr (Nat.lt_trans (Nat.lt_trans gd (by decide:10 ^ 19<2 ^ 64)) (Nat.pow_lt_pow_right (by decide) (by decide))))) ⟨_,_,rfl,by rw[Str.empty_append,sizeLine_eq];exact bO ‹_›,?_⟩
 refine Constant_str ⟨_,_,rfl,by rw[Str.empty_append,Str.length_append,sizeLine_eq];lia,?_⟩
 refine wpAny_FormattedValue_plain ((ai env ok aY bQ _ ahZ).go (s:={s with heap:=cn,toks:=_}) rO ry aI kG fun v cH bW cr cz dz eJ ko uf jN z d3=>?_)
 refine aW z fun b cc ah1=>aW (hq ah1) fun y bj ah2=>bS (m1 ah2) fun a5 ah3=>i8 cc bj fun rK t e=>?_
 cases e
 have f3:y.length<=10000:=a5
 have hlen:(Str.empty++Str.ofString (toString i)++x++y).length<=sizeLine:=by rw[Str.empty_append,Str.length_append,Str.length_append,sizeLine_eq];lia
 have fin:∀dx,K (.str (Str.empty++Str.ofString (toString i)++x++y) dx) {s with heap:=cz,toks:=dx+1}:=fun dx=>by
  rw[Str.empty_append]
  exact k _ _ cH (cs++cr) cz (dx+1) ⟨rfl,eI.trans eJ,bW,cr,ko.trans pt,rfl,jN,_,by exact⟨_,rfl⟩,ah3⟩ d3
 exact wpAny_formatField_str ⟨_,_,rfl,hlen,hlen,fin _⟩ ⟨_,_,rfl,hlen,hlen,fin _⟩ (by exact bO ‹_›)
end
section
variable {w:World} {B:bC w} {n:Nat} {env:Env} {ρ:aO} {g:G} {sc:List (Str×NameKind)}
noncomputable def dput:List Str->List D->Str->D->List Str×List D
 | [],Z,s,d=>([s],[d])
 | k::ks,ae,s,d=>match ae with|[]=>([s],[d])|v::ae=>if k=s then (k::ks,d::ae) else (k::(dput ks ae s d).1,v::(dput ks ae s d).2)
theorem sz{ae:List D}{s:Str}{d:D}:dput [] ae s d=([s],[d]):=rfl
theorem oU{k:Str}{ks:List Str}{v:D}{ae:List D}{s:Str}{d:D}:dput (k::ks) (v::ae) s d=if k=s then (k::ks,d::ae) else (k::(dput ks ae s d).1,v::(dput ks ae s d).2):=rfl
noncomputable def lV:List Str->List Value->Str->Value->List Str×List Value
 | [],Z,s,d=>([s],[d])
 | k::ks,ae,s,d=>match ae with|[]=>([s],[d])|v::ae=>if k=s then (k::ks,d::ae) else (k::(lV ks ae s d).1,v::(lV ks ae s d).2)
theorem Ln{k:Str}{ks:List Str}{v:Value}{ae:List Value}{s:Str}{d:Value}:lV (k::ks) (v::ae) s d=if k=s then (k::ks,d::ae) else (k::(lV ks ae s d).1,v::(lV ks ae s d).2):=rfl
theorem I7:∀{ks:List Str} {ds:List D} {ae:List Value} {s:Str} {d:D} {v:Value},ks.length=ae.length->bE w g ds ae->Rep w g d v->(lV ks ae s v).1=(dput ks ds s d).1/\bE w g (dput ks ds s d).2 (lV ks ae s v).2/\(lV ks ae s v).1.length=(lV ks ae s v).2.length
 | [],[],ae,s,d,v,aF,aA,hd=>by subst aA;exact⟨rfl,by exact dW v [] rfl hd (by rfl),rfl⟩
 | [],Z::bt,ae,s,d,v,aF,aA,hd=>by refine dc aA fun u r ad8 Z=>?_;subst ad8;injection aF
 | k::ks,[],ae,s,d,v,aF,aA,hd=>by subst aA;injection aF
 | k::ks,e::ds,ae,s,d,v,aF,aA,hd=>by
  refine c0 aA fun u r ad9 aw ai=>?_
  subst ad9
  rw[Ln,oU]
  by_cases q:k=s
  ·rw[if_pos q,if_pos q];exact⟨rfl,by exact dW v r rfl hd ai,aF⟩
  ·rw[if_neg q,if_neg q]
   refine fW (I7 (ks:=ks) (s:=s) (by simpa using aF) ai hd) fun a b c=>?_
   exact⟨by show k::_=k::_;rw[a],by exact dW u _ rfl aw b,by show _+1=_+1;rw[c]⟩
theorem Ie:∀{ks:List Str} {ae:List Value} {s:Str} {v:Value},ks.length=ae.length->ks.Nodup->stored (ks.zip ae) s v=(lV ks ae s v).1.zip (lV ks ae s v).2
 | [],[],s,v,Z,bt=>rfl
 | k::ks,u::ae,s,v,aF,hn=>by
  obtain⟨aw,ai⟩:=List.nodup_cons.mp hn
  rw[Ln]
  by_cases q:k=s
  ·subst q
   rw[if_pos rfl]
   unfold stored
   rw[if_pos (by simp)]
   rw[List.zip_cons_cons,List.map_cons,if_pos rfl,List.zip_cons_cons]
   congr 1
   refine(List.map_congr_left fun dT agc=>?_).trans (List.map_id _)
   rw[if_neg];rfl
   intro e
   exact aw (e▸(List.of_mem_zip agc).1)
  ·rw[if_neg q]
   rw[List.zip_cons_cons,List.zip_cons_cons,<- (Ie (s:=s) (v:=v) (by simpa using aF) ai)]
   unfold stored
   rw[List.any_cons,decide_eq_false q,Bool.false_or]
   by_cases r:(ks.zip ae).any (fun dT=>decide (dT.1=s))=true
   ·rw[if_pos r,if_pos r,List.map_cons,if_neg q]
   ·rw[if_neg r,if_neg r];rfl
 | [],Z::bt,cD,et,aF,kI=>by injection aF
 | Z::bt,[],cD,et,aF,kI=>by injection aF
noncomputable def stI(o:O)(i d:D):Option O:=match o with
 | .list l=>gY (fun j=>if 0<=j/\j<l.length/\j<100000 then some (.list (l.set j.toNat d)) else none) i
 | .dict ks ds=>iG (fun s=>if ks.length<=10000 then some (.dict (dput ks ds s d).1 (dput ks ds s d).2) else none) i
 | Z=>none
theorem bE.set:∀{ds:List D} {ae:List Value} {i:Nat} {d:D} {v:Value},bE w g ds ae->Rep w g d v->bE w g (ds.set i d) (ae.set i v)
 | [],Z,i,d,v,h,hd=>by subst h;rfl
 | e::ds,Z,0,d,v,h,hd=>by refine c0 h fun u r aea aw ai=>?_;subst aea;skip;exact dW v r rfl hd ai
 | e::ds,Z,i+1,d,v,h,hd=>by refine c0 h fun u r Ds aw ai=>?_;subst Ds;skip;exact dW u _ rfl aw (bE.set ai hd)
theorem SR{l:Addr}{us:List Value}{k:Nat}{i:Int}{t:Tok}{v:Value}{A:Around}{E:Value->Shared->Prop}{s:Shared}{Q:Unit->Shared->Prop}(bp:s.heap.get? l=some (lst us k))(h0:0<=i)(aS:i<100000)(hn:i<us.length)(h:∀aC k',aC.get? l=some (lst (us.set i.toNat v) k')->Heap.SameBut l s.heap aC->Q () {s with heap:=aC}):wpAny (model bD w) A (setItem (.ref l) (.int i t) v) Q E s:=by
 have aF:s.heap.IsList l us.toArray:=gu _ bp rfl ⟨k,rfl⟩
 have fits:Builtin.List.listFitsIndex i=true:=by
  unfold Builtin.List.listFitsIndex
  rw[Bool.and_eq_true,decide_eq_true_eq,decide_eq_true_eq]
  constructor <;> lia
 clear aS
 refine wpAny_holding (wpAny_bind (wpAny_sequenceKey aF.typeIs (by decide) ?_))
 refine wpAny_bind (wpAny_callSpecial?_slot (name:=Str.ofString "__setitem__") aF.typeIs PySem.slot_list_setitem (wpAny_call_entry PySem.slot_list_setitem aF.typeIs PySem.entry_list_setitem ?_ (PySem.args_list_setitem _ _ _)))
 show wpAny _ _ (Builtin.List.listSubscript? (.int i t)>>=_) _ _ s
 refine wpAny_bind (wpAny_listSubscript_int fits ?_)
 obtain⟨j,rfl⟩:=Int.eq_ofNat_of_zero_le h0
 have bL:j<us.length:=by lia
 refine wpAny_bind (wpAny_bind (wpAny_seqItemAt (items:=us.toArray) bp rfl (wpAny_pure ?_)))
 have aE:(us.toArray)[j]?=some us[j]:=by simp[bL]
 rw[aE]
 refine cQ (vC (f:=fun x=>x.setIfInBounds j v) bp) fun k' ez=>?_
 have fin:Q () {s with heap:=s.heap.update l (Obj.mapSeq (·.setIfInBounds j v))}:=h _ k' (by rw[ez];simp) (Heap.SameBut.update ..)
 refine wpAny_bind (wpAny_setSeqItemAt (items:=us.toArray) bp rfl ?_)
 exact wpAny_pure ⟨.none,rfl,wpAny_pure fin⟩
theorem UO{a:Addr}{o bK:O}{i d:D}{en v:Value}{b2:a7}(h:stI o i d=some bK)(cW:fB w g a o b2)(aN:Rep w g i en)(hd:Rep w g d v):eG B n (setItem (.ref a) en v) g b2 fun Z ao b'=>Ext g ao/\fB w ao a bK b':=by
 cases o with
 | list l=>exact gI aN h fun j t h=>hL h fun a5=>dc cW fun us k y aF=>y▸fun A E s R K aI S b0=>SR (S.own (a,_) (.head _)) a5.1 a5.2.2 (aF.length.symm▸a5.2.1) fun aC k' cR gd=>b0 () g _ aC s.toks ⟨.refl _,us.set j.toNat v,k',rfl,aF.set hd⟩ (S.update gd cR)
 | dict ks ds=>
  refine i8 aN h fun bP t h=>hL h fun a5=>k5 cW fun ae o y ai a3 bn bN=>y▸fun A E s R K aI S b0=>wpAny_setItem_pairs (o1 _ t) (jW.dictOf (S.own (a,_) (.head _)) ai) (fun aC fj gd=>?_) (by exact(show (ks.zip ae).length=ks.length from by rw[List.length_zip,a3,Nat.min_self]).symm▸(h2 a5))
  have hn:ks.Nodup:=by refine k5 ai fun bw ep Z Z Z Z hn=>?_;rwa [x9 a3] at hn
  rw[Ie a3 hn] at fj
  exact fW (I7 (s:=bP) a3 bN hd) fun aD ak bz=>iJ fj fun bK es' ep f1 f2=>b0 () g [(a,bK)] aC _ ⟨.refl _,_,bK,rfl,by refine aD▸?_;exact⟨es',ep,f2⟩,by refine aD▸?_;exact bz,bn,ak⟩ (S.update gd f1)
 | _=>exact ns h
noncomputable def lP(x:Nat)(eh f8:bG):bh:=fun ρ k=>f8 ρ fun d aY=>kk (bT aY x) fun a Z=>eh aY fun i bW=>kk (bT bW x) fun b o=>b=a/\iL (stI o i d) fun bK=>k .cx (st bW x (.mt b bK))
theorem XV{x:Nat}{s:Str}{aH aK pos:Pos}{i value:Expr}{eh f8:bG}(aN:bI B n sc i eh)(h:bI B n sc value f8)(hs:nm x=s)(aP:isVar sc s=true)(hw:∀env,swapsWith value (some (.Subscript (.Name s aH) i aK)) pos.line env=pure false:=by intro Z;rfl):dp B n sc (.Assign [.Subscript (.Name s aH) i aK] value pos) (lP x eh f8):=fun env ok ρ g Q aL=>by
 subst hs
 refine .of fun A E s R K aI S k=>wpAny_Assign_Subscript (b9.run (.eD (h env ok ρ g _ aL)) aI S fun v aY bQ cn ic eI z cM=>aW z fun d hd iv=>kZ iv fun a o aF iv=>?_) (hw env)
 refine b9.run (.eD (.name (Q:=fun gR ρ' ao=>gR=.ref a/\aY=ρ') ok aP aF fun gR (aP:gR=.ref a)=>⟨aP,rfl⟩)) aI cM fun gR bW cH cz dz eJ z cC=>bS z fun aD ak=>?_
 subst aD ak
 refine b9.run (.eD (aN env ok aY cH _ iv)) aI cC fun en uh mn jp Ak m5 z dq=>aW z fun ah0 pr dH=>kZ dH fun b fM tM bt=>bS bt fun y cD=>aW (hq cD) fun bK hR et=>?_
 subst y
 refine b9.run (.eD (.turn (Q:=fun Z ρ' ao=>ρ'=st uh x (.mt b bK)) tM fun b2 aS=>(UO hR aS pr ((hd.mono eJ).mono m5)).mono fun Z ao b' z=>bS z fun ex cW=>⟨ex,bK,cW,rfl⟩)) aI dq fun Z aj4 ah4 kC rL agd b5 hG=>?_
 subst b5
 exact k _ _ ah4 kC rL (((eI.trans eJ).trans m5).trans agd) ⟨.cx,trivial,et⟩ hG
end
section
variable {w:World} {B:bC w} {n:Nat} {env:Env} {ρ:aO} {g:G} {sc:List (Str×NameKind)}
theorem Sh{a b:Addr}{A:Around}{E:Value->Shared->Prop}{s:Shared}{Q:Value->Shared->Prop}(bp:s.TypeIs (.ref a) "list")(aS:s.TypeIs (.ref b) "list")(h:wpAny (model bD w) A (call (.builtin "list.__iadd__") [.ref a,.ref b]) Q E s):wpAny (model bD w) A (inplaceOp .Add (.ref a) (.ref b)) Q E s:=by
 refine wpAny_holding ?_
 have age:fillsInplaceSlot (.type "list") "add" (Operator.Add==.Add)=pure false:=by
  skip;rfl
 have Fd:seqSlot? (.type "list") (dunderI "add")=pure (some (.builtin "list.__iadd__")):=PySem.seqSlot_of F.slot_list_iadd.lookup (by decide +kernel)
 refine wpAny_bind (wpAny_typeOf bp (wpAny_bind (wpAny_of_eq age ?_)))
 skip
 refine wpAny_bind (wpAny_binaryOp1_none (nm:="add") bp aS noFill_list_add ?_)
 exact wpAny_bind (wpAny_of_eq Fd (wpAny_bind (wpAny_rule h)))
theorem VU{a:Addr}{l m:List D}{v:Value}{b2:a7}(a5:l.length+m.length<=10000)(cW:fB w g a (.list l) b2)(hd:Rep w g (.list m) v):eG B n (inplaceOp .Add (.ref a) v) g b2 fun r ao b'=>Ext g ao/\r=.ref a/\fB w ao a (.list (l++m)) b':=by
 intro A E s R K aI S b0
 refine dc cW fun us k ru aF=>?_
 subst ru
 refine c0 hd fun b ws abj aw ai=>?_
 subst abj
 refine aW (S.dJ _ _ aw) fun o ie DZ=>?_
 obtain⟨c,rfl⟩:=DZ
 have bp:=S.own (a,_) (.head _)
 refine Sh ⟨_,bp,rfl⟩ ⟨_,ie,rfl⟩ (call_meets F.slot_list_iadd ⟨_,bp,rfl⟩ F.entry_list_iadd (F.args_list_iadd_2 _ _) (AutoSeq1.list___iadd___list_list_0 a us.toArray k b ws.toArray c ?_ ?_ ?_) ⟨bp,ie,?_⟩)
 ·have:us.length+ws.length<=10000:=by rw[aF.length,ai.length];exact a5
  simp[Builtin.List.listTooLong,sizeLine_eq];lia
 ·rw[List.size_toArray,aF.length];exact h2 (show _<=_ by lia)
 ·rw[List.size_toArray,List.size_toArray,aF.length,ai.length];exact Nat.le_succ_of_le (h2 a5)
 ·refine cQ (vC (f:=fun x=>x++ws.toArray) bp) fun k' ez=>?_
  exact b0 _ g _ _ _ ⟨.refl _,rfl,us++ws,k',rfl,aF.app ai⟩ (S.update (Heap.SameBut.update ..) (by rw[ez];simp))
theorem b9.T6{Q:Unit->aO->G->Prop}{x:Nat}{a:Addr}{o:O}(ok:cS sc env)(aE:eS sc (nm x)=true)(aS:x<d6.length)(aF:bT ρ x=some (.mt a o))(h:Q () ρ g):b9 B n env (bindName env (nm x) (.ref a)) ρ g Q:=
 .wrap (fun Z Z Z Z h=>wpAny_bindName h) fun m cs ae ms T bu=>by
  refine fq (gV bu aF) fun v m₁ m₂ aD ak Z Z=>?_
  have aP:v=.ref a:=ak.1
  subst aP
  have jL:q2 ρ x:=by unfold q2;rw[aF];simp[V.eV]
  have:=da.CB (B:=B) (n:=n) (V:=.mt a o) (v:=.ref a) (b2:=[]) (l:=[]) (m2:=cs) (iu:=[]) (m₄:=ms) (vs':=ae) (bW:=ρ) ok aE aS (by rw[List.append_nil];exact T.x x) (fun av=>T.own x av jL) bu (.refl _)
   (fun y=>by by_cases q:y=x <;> simp[q,aD]) (fun y=>by by_cases q:y=x <;> simp[q,aF])
  rw[List.append_nil,List.append_nil] at this
  exact this.mono fun Z b3 ao ms' abk=>by obtain⟨e,n1,t1,jo,_⟩:=abk;subst e;exact⟨.refl _,ρ,n1,ae,ms,by rw[List.append_nil] at t1;exact t1,by rw[List.append_nil] at jo;exact jo,bu,h⟩
noncomputable def lQ(x:Nat)(W:bG):bh:=fun ρ k=>kk (bT ρ x) fun a Z=>W ρ fun d aY=>tC (bT aY x) fun b l=>iL (jB some d) fun m=>b=a/\l.length+m.length<=10000/\k .cx (st aY x (.mt b (.list (l++m))))
theorem L6:∀{ρ:aO} {x:Nat} {U V:V},bT ρ x=some U->bT (st ρ x V) x=some V:=by
 intro es
 induction es with
 | nil=>
  intro Z Z Z h
  exact ns h
 | cons l1 ρ eo=>
  obtain⟨y,W⟩:=l1
  intro x U V h
  rw[sU] at h;rw[MJ]
  by_cases q:x=y
  ·rw[if_pos q,sU,if_pos q]
  ·rw[if_neg q] at h ⊢;exact(if_neg q).trans (eo h)
theorem yS{x:Nat}{s:Str}{pos' pos:Pos}{value:Expr}{W:bG}(h:bI B n sc value W)(hs:nm x=s)(aE:eS sc s=true)(aN:isVar sc s=true)(aS:x<d6.length:=by decide):
  dp B n sc (.AugAssign (.Name s pos') .Add value pos) (lQ x W):=fun env ok ρ g Q aL=>by
 subst hs
 refine kZ aL fun a o aF aL=>?_
 refine .standAt (.bind (.eD (.load ok aN aF (fun u (de:u=.ref a)=>?_) (vx x aS).1)))
 subst de
 refine .bind (.holding (.mono (.eD (h env ok ρ g _ aL)) fun v aY bQ ex z=>aW z fun d hd iv=>.standAt (.bind (.operate ?_))))
 refine v2 iv fun b l kr dH=>aW (hq dH) fun b3 hm bt=>fW bt fun y a5 av=>mG hd hm fun gM hd e=>?_
 cases e
 subst y
 refine .eD (b1.mono (.turn (Q:=fun r ρ' ao=>r=.ref b/\ρ'=st aY x (.mt b (.list (l++b3)))) kr fun b2 cW=>(VU a5 cW hd).mono fun r ao b' z=>fW z fun aD ak bz=>⟨aD,_,bz,ak,rfl⟩) fun r bW cH Z z=>bS z fun aD ak=>?_)
 subst aD ak
 exact .standAt (.bind (.T6 ok aE aS (L6 kr) (.pure ⟨.cx,trivial,av⟩)))
noncomputable def vU(j:Nat):mr:=fun ρ k=>∀a,k (.mt a (.lists (List.replicate j []))) ρ
noncomputable def oV(ls:List (List D))(i:Nat)(d:D):List (List D):=match ls,i with
 | l::ls,0=>(l++[d])::ls
 | l::ls,i+1=>l::oV ls i d
 | [],Z=>[]
theorem ik.tN:∀{ls:List (List D)} {ae:List Value} {ms:a7} {i:Nat} {l:List D},ik w g ls ae ms->ls[i]?=some l->∃b us k b3,ae[i]?=some (.ref b)/\ms.Perm ((b,lst us k)::b3)/\bE w g l us/\
  ∀ao d ku k',Ext g ao->bE w ao (l++[d]) ku->∃gM,ik w ao (oV ls i d) ae gM/\gM.Perm ((b,lst ku k')::b3)
 | [],_,_,_,_,_,h=>by simp at h
 | Am::ls,_,_,0,l,⟨a,ws,k,r,ms',rfl,rfl,aw,ai⟩,h=>by
  simp at h;subst h
  exact hy a ws k ms' rfl (.refl _) aw (fun ao d ku k' e aA=>⟨(a,lst ku k')::ms',wV a ku k' r ms' rfl rfl aA (ai.mono e),.refl _⟩)
 | Am::ls,_,_,i+1,l,⟨a,ws,k,r,ms',rfl,rfl,aw,ai⟩,h=>by
  refine h9 (ik.tN ai h) fun b us k₁ b3 aD ak bz b5=>?_
  refine hy b us k₁ ((a,lst ws k)::b3) (by simpa using aD) ((ak.cons _).trans (List.Perm.swap _ _ _)) bz (fun ao d ku k' e aA=>?_)
  refine aW (b5 ao d ku k' e aA) fun gM f1 f2=>?_
  exact⟨(a,lst ws k)::gM,wV a ws k r gM rfl rfl (aw.mono e) f1,(f2.cons _).trans (List.Perm.swap _ _ _)⟩
noncomputable def sA(x:Nat)(eh f8:bG):bG:=fun ρ k=>zk (bT ρ x) fun a Z=>eh ρ fun i aY=>zk (bT aY x) fun c N6=>iL (isInt i) fun j=>c=a/\0<=j/\j<100000/\N6[j.toNat]?.isSome=true/\
 f8 aY fun d bW=>zk (bT bW x) fun b ls=>b=a/\iL ls[j.toNat]? fun l=>l.length<=10000/\k .none (st bW x (.mt b (.lists (oV ls j.toNat d))))
theorem Lp{ae vs':List Value}(h:gQ ae=gQ vs'):ae=vs':=by
 have:gQ vs' (lst ae 0):=h▸⟨0,rfl⟩
 refine cQ this fun k e=>?_
 have:=congrArg Obj.data e
 simp at this
 exact this.1
theorem VV{x:Nat}{s:Str}{i e:Expr}{p aK apos pos:Pos}{eh f8:bG}(aN:bI B n sc i eh)(he:bI B n sc e f8)(hs:nm x=s)(aP:isVar sc s=true)(hline:(apos.endLine==pos.line)=true:=by rfl)(aeb:∀o v,subscripted i false o v=operate [o,v] (getItem o v):=by intro Z Z;rfl)(nV:∀env,attributeBase (.Subscript (.Name s p) i aK) "append" env (eval (.Subscript (.Name s p) i aK) env)=eval (.Subscript (.Name s p) i aK) env:=by intro Z;rfl)(rh:∀env,((backTo pos (starEach [e] env)).all (fun x=>!x.1)&&(backToKw pos (keywordEach [] env)).all (fun x=>x.1.isSome)
   && decide ([e].length+([]:List Keyword).length+(if ([]:List Keyword).isEmpty then 0 else 1)<30))=true:=by intro Z;rfl)(tO:∀env,starEach [e] env=[(false,eval e env)]:=by intro Z;rfl):
  bI B n sc (.Call (.Attribute (.Subscript (.Name s p) i aK) "append" apos) [e] [] pos) (sA x eh f8):=fun env ok ρ g Q aL=>by
 subst hs
 refine Cy aL fun a agf aF aL=>.zq (nV env) (rh env) hline F.plainAttrs_list F.slot_list_append F.type_list_append (.bind (.name ok aP aF fun v (aP:v=.ref a)=>?_))
 subst aP
 refine .bind (.holding ((aN env ok ρ g _ aL).mono fun v aY bQ ex z=>aW z fun aj5 F9 av=>.standAt ?_))
 show b1 B n env (subscriptTail (.Name (nm x) p) i (.ref a) v) aY bQ _
 refine Cy av fun c N6 kr dH=>aW (hq dH) fun j bL bt=>zF bt fun y h0 aS abl av=>cQ (Option.isSome_iff_exists.mp abl) fun l₁ MZ=>gI F9 bL fun aj6 t e=>?_
 cases e
 subst y
 refine b1.mono (Q:=fun gR ρ' ao=>aY=ρ'/\bQ=ao/\∃b k8,gR=.ref b/\bQ c=some (gQ k8)/\k8[j.toNat]?=some (.ref b)) (.sG (Pre:=fun h=>∃k8 b,bQ c=some (gQ k8)/\k8[j.toNat]?=some (.ref b)/\∃o,h.get? c=some o/\gQ k8 o) (fun ae ms h l' bu hm S=>?_)
  (.of fun A E s R K aI S z k=>c0 z fun k8 b aD ak z=>aW z fun o bz b5=>tail_any (gQ.isList bz b5).typeIs slot_list_getitem.lookup (wpAny_getItem_list (gQ.isList bz b5) h0 (by lia) (by simpa using ak) (k _ s.toks ⟨rfl,rfl,b,k8,rfl,aD,ak⟩)) (aeb _ _))) fun gR ρ' ao Z z=>?_
 ·exact fq (gV bu kr) fun u m₁ m₂ Z z bz Z=>bS z fun Z z=>aW z fun k8 b5 dQ=>h9 (dQ.tN MZ) fun b us b0 b3 f1 f2 dL Z=>dW k8 b b5 f1 (S.dJ _ _ b5)
 ·refine fW z fun aD ak z=>c0 z fun b k8 bz b5 dQ=>?_
  subst aD ak bz
  refine⟨fun ae ms s l' bu hm S=>?_,.se (fun env=>by rw[tO];rfl) (fun env pos=>by rw[tO];rfl) ?_⟩
  ·refine fq (gV bu kr) fun u m₁ m₂ Z z dL Z=>bS z fun Z z=>aW z fun w4 f4 fl=>?_
   cases Lp (Option.some.inj (b5.symm.trans f4))
   refine h9 (fl.tN MZ) fun b' us b0 b3 dH bt cD Z=>?_
   cases dQ.symm.trans dH
   have:=hm (b,lst us b0) (dL.mem_iff.mpr (List.mem_append_left _ (bt.mem_iff.mpr (.head _))))
   exact⟨⟨_,this,rfl⟩,fun kK e=>by injection e with e;subst e;exact⟨_,this,rfl⟩⟩
  ·rw[tO]
   refine .of_eq (t':=(do
    let v <- eval e env
    let here <- (Pure.pure [v]:Sem (List Value))
    return here++(<- PySem.holding here (Pure.pure []:Sem (List Value))))) rfl ?_
   refine .bind ((he env ok aY bQ _ av).mono fun v bW cH eJ z=>aW z fun d hd xc=>.bind (.pure (.bind (.holding (.pure (.pure ?_))))))
   refine Cy xc fun aj7 ls tM z=>bS z fun y z=>aW (hq z) fun l aec z=>bS z fun a5 et=>?_
   subst y
   refine .turn tM fun b2 cW=>aW cW fun w4 f4 fl=>?_
   cases Lp (Option.some.inj ((eJ _ _ b5).symm.trans f4))
   refine h9 (fl.tN aec) fun b' us b0 b3 dH bt cD kI=>?_
   cases dQ.symm.trans dH
   refine eG.perm bt fun A E s R K aI S Fa=>wpAny_list_append_plain (items:=us.toArray) ⟨b0,S.own (b,_) (.head _)⟩ (fun aC eE gd=>cQ eE fun k' ez=>?_) (by rw[List.size_toArray,cD.length];exact h2 a5)
   have cR:aC.get? b=some (lst (us++[v]) k'):=by rw[ez];simp[lst]
   exact aW (kI cH d (us++[v]) k' (.refl _) (cD.snoc hd)) fun gM jq fG=>Fa _ cH gM aC s.toks ⟨.refl _,.lists (oV ls j.toNat d),⟨k8,eJ _ _ b5,jq⟩,.none,by rfl,et⟩ (((S.update gd cR)).perm (fG.symm.append_right R))
end
section
variable {w:World} {B:bC w} {n:Nat} {env:Env} {ρ:aO} {g:G} {sc:List (Str×NameKind)}
noncomputable def e9(ks:List Str)(ls:List (List D))(s:Str)(d:D):List Str×List (List D):=match gm ks s with
 | some i=>(ks,oV ls i d)
 | none=>(ks++[s],ls++[[d]])
theorem Ig:∀(ls:List (List D)) (l:List D) (d:D),oV (ls++[l]) ls.length d=ls++[l++[d]]
 | [],l,d=>rfl
 | m::ls,l,d=>by exact congrArg _ (Ig ls l d)
theorem ik.length:∀{ls:List (List D)} {ae:List Value} {ms:a7},ik w g ls ae ms->ae.length=ls.length
 | [],Z,bt,⟨h,cD⟩=>by subst h;rfl
 | _::ls,_,_,⟨a,ws,k,r,ms',rfl,rfl,aw,ai⟩=>by simp[ai.length]
theorem ik.more:∀{ls:List (List D)} {ae:List Value} {ms:a7} (j3:Addr),ik w g ls ae ms->ik w g (ls++[[]]) (ae++[.ref j3]) (ms++[(j3,lst [] 0)]):=by
 intro es
 induction es with
 | nil=>
  intro Z Z j3 l2
  obtain⟨h,aC⟩:=l2
  subst h aC;exact EQ j3 [] 0 [] [] rfl rfl (by rfl) rfl rfl
 | cons Z ls eo=>
  intro Z Z j3 agg
  refine ED agg fun a ws k r ms' aed aee aw ai=>?_
  subst aed
  subst aee
  exact wV a ws k (r++[.ref j3]) (ms'++[(j3,lst [] 0)]) rfl rfl aw (eo j3 ai)
theorem Bf:∀{ks:List Str} {ae:List Value} {s:Str},ks.length=ae.length->valueAt (ks.zip ae) s=(gm ks s).bind fun i=>ae[i]?
 | [],[],s,Z=>rfl
 | k::ks,v::ae,s,h=>by
  unfold gm
  by_cases q:k=s
  ·rw[if_pos q];unfold valueAt;rw[List.zip_cons_cons,List.find?_cons_of_pos (by simpa using q)];rfl
  ·rw[if_neg q]
   have:valueAt ((k::ks).zip (v::ae)) s=valueAt (ks.zip ae) s:=by unfold valueAt;rw[List.zip_cons_cons,List.find?_cons_of_neg (by simpa using q)]
   refine this.symm▸(Bf (s:=s) (by simpa using h:ks.length=ae.length)).symm▸?_
   cases gm ks s <;> rfl
 | [],Z::bt,cD,h=>by injection h
 | Z::bt,[],cD,h=>by injection h
theorem Si:∀{ks:List Str} {s:Str},gm ks s=none->s∉ks:=by
 intro es
 induction es with
 | nil=>
  intro s Z
  simp
 | cons k ks eo=>
  intro s h
  unfold gm at h
  split at h
  ·exact sn h
  ·rename_i q
   have:=eo (Option.map_eq_none_iff.mp h)
   simp only[List.mem_cons,not_or]
   exact⟨fun e=>q e.symm,this⟩
noncomputable def Ci(x:Nat)(Ar:bG)(y:Nat):bG:=fun ρ k=>DX (bT ρ x) fun a Z Z=>Ar ρ fun kd aY=>iL (isStr kd) fun s=>DX (bT aY x) fun b ks ls=>EW (bT aY y) fun d=>
 b=a/\ks.length=ls.length/\ks.length<=10000/\(ls.all fun l=>decide (l.length<=10000))=true/\k .none (st aY x (.mt b (.hl (e9 ks ls s d).1 (e9 ks ls s d).2)))
theorem cB.split{L:Addr}{m:Str->Option Value}{cs ms m₁ m₂ R:a7}{h:Heap}(F:cB B L m g ((cs++ms)++R) h)(p:ms.Perm (m₁++m₂)):∃cm,bx B g (m₁++((L,cm)::(m₂++(cs++R)))) h/\
  ∀ao tP ll aC,bx B ao (tP++((L,cm)::(m₂++(cs++R)))) aC->ll.Perm (tP++m₂)->cB B L m ao ((cs++ll)++R) aC:=by
 refine aW F.open fun cm S c=>?_
 refine⟨cm,S.perm ?_,fun ao tP ll aC bZ dZ=>?_⟩
 ·have:((cs++ms)++R).Perm (m₁++(m₂++(cs++R))):=by
   rw[List.append_assoc]
   refine(List.Perm.append_left cs (p.append_right R)).trans ?_
   rw[List.append_assoc,<- List.append_assoc cs m₁]
   refine(List.perm_append_comm.append_right _).trans ?_
   rw[List.append_assoc]
   refine List.Perm.append_left m₁ ?_
   rw[<- List.append_assoc,<- List.append_assoc]
   exact List.perm_append_comm.append_right R
  exact(this.cons _).trans List.perm_middle.symm
 ·have:(tP++(m₂++(cs++R))).Perm ((cs++ll)++R):=by
   rw[List.append_assoc]
   refine List.Perm.trans ?_ (List.Perm.append_left cs (dZ.symm.append_right R))
   rw[List.append_assoc,<- List.append_assoc cs tP]
   refine List.Perm.trans ?_ (List.perm_append_comm.append_right _)
   rw[List.append_assoc]
   refine List.Perm.append_left tP ?_
   rw[<- List.append_assoc,<- List.append_assoc]
   exact List.perm_append_comm.append_right R
  have cC:=bZ.perm (List.perm_middle.trans (this.cons _))
  exact cB.close cC (c _ (cC.own (L,cm) (.head _)))
theorem I8{x:Nat}{V:V}{ae:List Value}{m:Str->Option Value}{cs ms R:a7}{pos:Pos}{A:Around}{E:Value->Shared->Prop}{s:Shared}{K:Value->Shared->Prop}(ok:cS sc env)(aE:isVar sc (nm x)=true)(T:dP env m cs g ρ ae)(bu:c6 w g ρ ae ms)(oz:cB B env.locals m g ((cs++ms)++R) s.heap)(aF:bT ρ x=some V)(k:∀v,wj w g V v->K v s):wpAny (model bD w) A (eval (.Name (nm x) pos) env) K E s:=
 iJ (gV bu aF) fun v Z Z aD Z=>wpAny_Name (I5 ok aE T bu oz aF (vx x (T.g6 x v aD)).1 k) (vx x (T.g6 x v aD)).2
theorem JM:∀{ρ:aO} {x y:Nat} {V:V},y≠x->bT (st ρ x V) y=bT ρ y:=by
 intro es
 induction es with
 | nil=>
  intro Z Z Z Z
  exact rfl
 | cons l1 ρ eo=>
  obtain⟨z,U⟩:=l1
  intro x y V h
  refine MJ.symm▸?_
  by_cases q:x=z
  ·subst q;rw[if_pos rfl,sU,sU,if_neg h,if_neg h]
  ·rw[if_neg q,sU,sU]
   by_cases r:y=z
   ·rw[if_pos r,if_pos r]
   ·rw[if_neg r,if_neg r];exact eo h
theorem Ih{y:Nat}{b b':Addr}{ls:List (List D)}{us ae:List Value}{o:Obj}{nk jX cs ms R:a7}{i:Nat}{l:List D}{d:D}{m:Str->Option Value}{p3 c2:Pos}{A:Around}{E:Value->Shared->Prop}{s:Shared}{K:Value->Shared->Prop}(ok:cS sc env)(tQ:isVar sc (nm y)=true)(aI:dk n A)(T:dP env m cs g ρ ae)(bu:c6 w g ρ ae ms)(oz:cB B env.locals m g ((cs++ms)++R) s.heap)(xN:ms.Perm (((b,o)::nk)++jX))(fl:ik w g ls us nk)(aN:ls[i]?=some l)(de:us[i]?=some (.ref b'))(a5:l.length<=10000)(oj:bT ρ y=some (.aX d))(k:∀v gM aC t',ik w g (oV ls i d) us gM->(∀fh,fh.Perm (((b,o)::gM)++jX)->cB B env.locals m g ((cs++fh)++R) aC)->Rep w g .none v->K v {s with heap:=aC,toks:=t'}):
  s.TypeIs (.ref b') "list"/\(∀a,Value.ref b'=.ref a->∃f7,s.heap.get? a=some f7/\f7.dict=none)/\wpAny (model bD w) A (callWith c2 (.builtin "list.append") [.ref b'] (backTo c2 (starEach [.Name (nm y) p3] env)) []) K E s:=by
 refine h9 (fl.tN aN) fun aj8 ws b0 b3 dH bt cD et=>?_
 replace dH:=de▸dH
 cases dH
 have cR:=oz.cb.own (b',lst ws b0) (by simp[(xN.mem_iff.mpr (List.mem_append_left _ (.tail _ (bt.mem_iff.mpr (.head _)))))])
 refine⟨⟨_,cR,rfl⟩,fun a e=>by injection e with e;subst e;exact⟨_,cR,rfl⟩,callWith_builtin (by rfl) (evalArgs_plain ?_)⟩
 show wpAny (model bD w) A (do
  let v <- eval (.Name (nm y) p3) env
  let here <- (Pure.pure [v]:Sem (List Value))
  return here++(<- PySem.holding here (Pure.pure []:Sem (List Value)))) _ _ _
 refine wpAny_bind (I8 ok tQ T bu oz oj fun v hd=>wpAny_bind (wpAny_pure (wpAny_bind (wpAny_holding (wpAny_pure (wpAny_pure ?_))))))
 refine aW (oz.split xN) fun cm S close=>?_
 have rR:(((b,o)::nk)++((env.locals,cm)::(jX++(cs++R)))).Perm ((b',lst ws b0)::((b,o)::b3++((env.locals,cm)::(jX++(cs++R))))):=by
  have:((b,o)::nk).Perm ((b',lst ws b0)::((b,o)::b3)):=(bt.cons _).trans (List.Perm.swap _ _ _)
  exact this.append_right _
 have cM:=S.perm rR
 refine wpAny_list_append_plain (items:=ws.toArray) ⟨b0,cM.own (b',_) (.head _)⟩ (fun aC eE gd=>?_) (by exact List.size_toArray.symm▸cD.length.symm▸(h2 a5))
 refine cQ eE fun k' ez=>?_
 have rC:aC.get? b'=some (lst (ws++[v]) k'):=by rw[ez];simp[lst]
 refine aW (et g d (ws++[v]) k' (.refl _) (cD.snoc hd)) fun gM jq fG=>?_
 refine k _ gM aC s.toks jq (fun fh p=>close g ((b,o)::gM) fh aC ((cM.update gd rC).perm ?_) p) (by rfl)
 have:((b',lst (ws++[v]) k')::((b,o)::b3)).Perm ((b,o)::gM):=(List.Perm.swap _ _ _).trans (fG.symm.cons _)
 exact this.append_right _
theorem Tt{x y:Nat}{b:Addr}{key:Str}{dx:Tok}{ks:List Str}{ls:List (List D)}{ae:List Value}{cs ms R:a7}{d:D}{m:Str->Option Value}{p3 c2:Pos}{A:Around}{E:Value->Shared->Prop}{s:Shared}{t0:Nat}{K:Value->Shared->Prop}(ok:cS sc env)(tQ:isVar sc (nm y)=true)(aI:dk n A)(T:dP env m cs g ρ ae)(bu:c6 w g ρ ae ms)(d3:cB B env.locals m g ((cs++ms)++R) s.heap)(px:bT ρ x=some (.mt b (.hl ks ls)))(oj:bT ρ y=some (.aX d))(a5:ks.length<=10000)(rx:(ls.all fun l=>decide (l.length<=10000))=true)(k:∀v m₄ aC t',c6 w g (st ρ x (.mt b (.hl (e9 ks ls key d).1 (e9 ks ls key d).2))) ae m₄->cB B env.locals m g ((cs++m₄)++R) aC->Rep w g .none v->K v {s with heap:=aC,toks:=t'}):
  wpAny (model bD w) A (call (.builtin "dict.setdefault") [.ref b,.str key dx,.ref s.heap.objs.size]) (fun r bP=>bP.TypeIs r "list"/\(∀a,r=.ref a->∃f7,bP.heap.get? a=some f7/\f7.dict=none)/\wpAny (model bD w) A (callWith c2 (.builtin "list.append") [r] (backTo c2 (starEach [.Name (nm y) p3] env)) []) K E bP) E {s with heap:=s.heap.push (lst []),toks:=t0}:=by
 refine g4 fun ai8 L7=>?_
 refine fq (gV bu px) fun u n₁ jX de z xN Dt=>bS z fun ah5 z=>zH z fun us o nk f9 f2 dL f4 fl=>?_
 subst ah5 f9
 refine aW (d3.split xN) fun cm S close=>?_
 have cM:=S.push (lst [])
 have kF:=jW.dictOf (cM.own (b,o) (.tail _ (.head _))) f2
 refine call_meetsIn F.slot_dict_setdefault kF.mapOf.typeIs F.entry_dict_setdefault (F.args_dict_setdefault_3 _ _ _) (kt_meets_setdefault (strKind bD w) b (o1 key dx) f4 (.ref s.heap.objs.size)) ⟨ks.zip us,kF,by refine(show (ks.zip us).length=ks.length from by rw[List.length_zip,dL,Nat.min_self]).symm▸?_;exact h2 a5,fun v aP=>?_,fun aP aC fj gd=>?_⟩
 ·skip
  replace aP:=(Bf dL)▸aP
  cases hf:gm ks key with
  | none=>exact ns (hf▸aP)
  | some i=>
   replace aP:=hf▸aP
   have N7:=fl.length▸((List.getElem?_eq_some_iff.mp aP).1)
   have N8:=List.getElem?_eq_getElem N7
   refine lZ (fl.tN N8) fun b' ws b0 b3 dH Z=>?_
   have N9:us[i]?=some v:=aP
   cases N9.symm.trans dH
   refine L7 _ _ ?_
   refine Ih (p3:=p3) (c2:=c2) (E:=E) (K:=K) (s:={s with heap:=s.heap.push (lst []),toks:=t0+1}) ok tQ aI T bu (d3.JK (o:=lst []) rfl) xN fl N8 N9 (by simpa using List.all_eq_true.mp rx _ (List.getElem_mem N7)) oj fun v gM aC t' jq fG rQ=>?_
   have e:e9 ks ls key d=(ks,oV ls i d):=by unfold e9;rw[hf]
   refine aW (Dt g (.mt b (.hl (e9 ks ls key d).1 (e9 ks ls key d).2)) ((b,o)::gM) (.refl _) ⟨rfl,by rw[e];exact zK us o gM rfl f2 dL f4 jq⟩) fun m₄ nq oA=>?_
   exact k v m₄ aC t' nq (fG m₄ oA) rQ
 ·skip
  rw[Bf dL] at aP
  have hf:gm ks key=none:=by
   cases hf:gm ks key with
   | none=>rfl
   | some i=>
    rw[hf] at aP
    exact absurd (dL▸((List.getElem?_eq_some_iff.mp (A3 hf).1).1)) (Nat.not_lt.mpr (List.getElem?_eq_none_iff.mp aP))
  have aef:stored (ks.zip us) key (.ref s.heap.objs.size)=(ks++[key]).zip (us++[.ref s.heap.objs.size]):=by
   rw[stored_new (by exact(x9 dL).symm▸(Si hf)),List.zip_append dL];rfl
  rw[aef] at fj
  refine iJ fj fun bK es' ep g1 g2=>?_
  have Oa:=fl.more s.heap.objs.size
  have rR:((s.heap.objs.size,lst [])::(((b,o)::nk)++((env.locals,cm)::(jX++(cs++R))))).Perm ((b,o)::((nk++[(s.heap.objs.size,lst [])])++((env.locals,cm)::(jX++(cs++R))))):=
   (List.Perm.swap _ _ _).trans (List.Perm.cons _ ((List.perm_append_singleton _ _).symm.append_right _))
  refine aW (Dt g (.mt b (.hl (ks++[key]) (ls++[[]]))) ((b,bK)::(nk++[(s.heap.objs.size,lst [])])) (.refl _) ⟨rfl,us++[.ref s.heap.objs.size],bK,_,rfl,⟨es',ep,g2⟩,by simp[dL],f4,Oa⟩) fun m₄ nq oA=>?_
  have aeg:bT (st ρ x (.mt b (.hl (ks++[key]) (ls++[[]])))) y=some (.aX d):=by
   have kn:y≠x:=by rintro rfl;replace oj:=px▸oj;cases oj
   exact(JM kn).trans oj
  refine L7 _ _ ?_
  refine Ih (p3:=p3) (c2:=c2) (E:=E) (K:=K) (s:={s with heap:=aC,toks:=t0+1}) (i:=ls.length) (l:=[]) (b':=s.heap.objs.size) (ρ:=st ρ x (.mt b (.hl (ks++[key]) (ls++[[]])))) ok tQ aI (T.mono (.refl _) ((fun o=>su (U:=.mt b o) px rfl) _)) nq (close g ((b,bK)::(nk++[(s.heap.objs.size,lst [])])) m₄ aC ((cM.perm rR).update gd g1) oA) oA Oa (by simp) (by simp[<- fl.length]) (Nat.zero_le _) aeg fun v gM gw iM jq fG rQ=>?_
  rw[Ig] at jq
  have e:e9 ks ls key d=(ks++[key],ls++[[d]]):=by unfold e9;rw[hf]
  refine aW (Dt g (.mt b (.hl (e9 ks ls key d).1 (e9 ks ls key d).2)) ((b,bK)::gM) (.refl _) ⟨rfl,by rw[e];exact zK _ bK gM rfl ⟨es',ep,g2⟩ (by simp[dL]) f4 jq⟩) fun O6 gA cK=>?_
  exact k v O6 gw iM gA (fG O6 cK) rQ
theorem UP{x y:Nat}{s iR:Str}{iB:Expr}{aH aK p3 a1 a2 fH c2:Pos}{Ar:bG}(av:bI B n sc iB Ar)(hs:nm x=s)(aP:isVar sc s=true)(w3:nm y=iR)(tQ:isVar sc iR=true)(xd:(a1.endLine==fH.line)=true:=by rfl)(xf:(a2.endLine==c2.line)=true:=by rfl)(w5:∀env,attributeBase (.Name s aH) "setdefault" env (eval (.Name s aH) env)=eval (.Name s aH) env:=by intro Z;rfl)(w6:∀env,attributeBase (.Call (.Attribute (.Name s aH) "setdefault" a1) [iB,.List [] aK] [] fH) "append" env (eval (.Call (.Attribute (.Name s aH) "setdefault" a1) [iB,.List [] aK] [] fH) env)=eval (.Call (.Attribute (.Name s aH) "setdefault" a1) [iB,.List [] aK] [] fH) env:=by intro Z;rfl)(agh:∀env,((backTo fH (starEach [iB,.List [] aK] env)).all (fun x=>!x.1)&&(backToKw fH (keywordEach [] env)).all (fun x=>x.1.isSome)
   && decide ([iB,.List [] aK].length+([]:List Keyword).length+(if ([]:List Keyword).isEmpty then 0 else 1)<30))=true:=by intro Z;rfl)(tO:∀env,starEach [iB,.List [] aK] env=[(false,eval iB env),(false,eval (.List [] aK) env)]:=by intro Z;rfl):
  bI B n sc (.Call (.Attribute (.Call (.Attribute (.Name s aH) "setdefault" a1) [iB,.List [] aK] [] fH) "append" a2) [.Name iR p3] [] c2) (Ci x Ar y):=fun env ok ρ g Q aL=>by
 subst hs w3
 intro m cs ae ms T bu A E s R K aI oz k
 refine Lc aL fun a ajz agf aF aL=>wpAny_Call_method (w6 env) (by rfl) xf F.plainAttrs_list F.slot_list_append F.type_list_append (wpAny_Call_method (w5 env) (agh env) xd F.plainAttrs_dict F.slot_dict_setdefault F.type_dict_setdefault (I8 ok aP T bu oz aF fun gR (agi:gR=.ref a)=>?_))
 subst agi
 have m6:s.TypeIs (.ref a) "dict"/\∀b,Value.ref a=.ref b->∃f7,s.heap.get? b=some f7/\f7.dict=none:=
  fq (gV bu aF) fun u n₁ jX Z z dL Z=>bS z fun Z z=>hN z fun us o nk f1 f2 Z=>by
   have:=oz.cb.own (a,o) (List.mem_append_left _ (List.mem_append_right _ (dL.mem_iff.mpr (by rw[f1];exact .head _))))
   exact dc f2 fun bw ep q Z=>⟨⟨_,this,q.1⟩,fun b e=>by injection e with e;subst e;exact⟨_,this,q.2.1⟩⟩
 refine⟨m6.1,m6.2,callWith_builtin (by rw[tO];rfl) ?_⟩
 refine g4 fun aiS XW=>?_
 refine(show backTo fH (starEach [iB,.List [] aK] env)=(false,eval iB env)::[(false,eval (.List [] aK) env)] by rw[tO];rfl).symm▸?_
 refine evalArgs_plain ?_
 show wpAny (model bD w) A (do
   let v <- eval iB env
   let here <- (Pure.pure [v]:Sem (List Value))
   return here++(<- PySem.holding here (do
    let u <- eval (.List [] aK) env
    let there <- (Pure.pure [u]:Sem (List Value))
    return there++(<- PySem.holding there (Pure.pure []:Sem (List Value)))))) _ _ _
 refine g4 fun aiT XX=>?_
 refine wpAny_bind ((av env ok ρ g _ aL).go T bu aI oz fun dT cH bW cr cz dz eJ ko uf jN z d3=>?_)
 refine aW z fun kd rD dH=>aW (hq dH) fun key aeh bt=>Lc bt fun b ks ls px cD=>LX cD fun d oj et=>zF et fun rK ajA a5 rx aei=>i8 rD aeh fun ai9 dx e=>?_
 cases e
 refine wpAny_bind (wpAny_pure (wpAny_bind (wpAny_holding ?_)))
 show wpAny (model bD w) A ((do PySem.standAt aK;newList (<- spliced (backTo aK (starEach [] env))))>>=_) _ _ _
 refine wpAny_bind (wpAny_bind (wpAny_standAt (wpAny_bind (wpAny_pure (wpAny_newObj_type ?_ (Nat.zero_le _))))))
 refine wpAny_bind (wpAny_pure (wpAny_bind (wpAny_holding (wpAny_pure (wpAny_pure (wpAny_pure ?_))))))
 subst rK
 refine XX _ _ ?_
 refine XW _ _ ?_
 exact Tt (s:={s with heap:=cz,toks:=dz}) ok tQ aI uf jN d3 px oj a5 rx fun v m₄ aC t' nq cI rQ=>k v m cH (cs++m₄) aC t' ⟨rfl,eJ,st bW x (.mt b (.hl (e9 ks ls key d).1 (e9 ks ls key d).2)),m₄,(su (U:=.mt b (.hl (e9 ks ls key d).1 (e9 ks ls key d).2)) px rfl).trans ko,rfl,nq,.none,rQ,aei⟩ cI
end
section
variable {w:World} {B:bC w} {n:Nat} {env:Env} {ρ:aO} {g:G} {sc:List (Str×NameKind)}
noncomputable def o8:List Nat->List D->aO->(aO->Prop)->Prop
 | [],[],ρ,k=>k ρ
 | x::xs,d::ds,ρ,k=>dO (i1 ρ x) (putK ρ x (.aX d) fun ρ'=>o8 xs ds ρ' k)
 | Z,bt,cD,et=>False
theorem JN:∀{xs:List Nat} {ds:List D} {ρ:aO} {k:aO->Prop},o8 xs ds ρ k->xs.length=ds.length
 | [],[],Z,bt,cD=>rfl
 | x::xs,d::ds,ρ,k,h=>by simp[JN (lM (k:=fun ρ'=>o8 xs ds ρ' k) (eu h).2)]
 | [],Z::bt,cD,et,h=>h.elim
 | Z::bt,[],cD,et,h=>h.elim
theorem b9.assignAll(ok:cS sc env):∀{ps:List (Nat×Pos)} {ds:List D} {ae:List Value} {ρ:aO} {g:G} {k:aO->Prop},(∀p∈ps,eS sc (nm p.1)=true/\p.1<d6.length)->bE w g ds ae->o8 (ps.map (·.1)) ds ρ k->
  b9 B n env (assignInOrder (ps.map fun p=>fun v=>assign (.Name (nm p.1) p.2) env v) ae) ρ g fun Z ρ' Z=>k ρ'
 | [],[],ae,ρ,g,k,Z,aA,h=>by subst aA;exact .pure h
 | (x,p)::ps,d::ds,ae,ρ,g,k,bc,aA,h=>by
  refine c0 aA fun v r ru aw ai=>?_
  subst ru
  obtain⟨bb,h⟩:=eu h
  replace h:=lM (k:=fun ρ'=>o8 (ps.map (·.1)) ds ρ' k) h
  refine bS (bc (x,p) (.head _)) fun fH c2=>?_
  skip
  refine .bind (.holding (.wrap (fun Z Z Z Z h=>wpAny_assign_Name h) (.yK ok fH c2 aw bb ?_)))
  exact b9.assignAll ok (fun q aL=>bc q (.tail _ aL)) ai h
 | [],Z::bt,cD,et,kI,An,O7,O8,h=>h.elim
 | Z::bt,[],cD,et,kI,An,O7,O8,h=>h.elim
theorem bx.fresh{l:a7}{h aC:Heap}(S:bx B g l h)(e:Heap.ExtBut h.objs.size h aC):bx B g l aC:=S.keeps fun b o aS=>e b o (Nat.ne_of_lt (Heap.lt_size aS)) aS
theorem St.fresh{R:a7}{h aC:Heap}(S:St B env g ρ R h)(e:Heap.ExtBut h.objs.size h aC):St B env g ρ R aC:=by
 refine aW S.lN fun l bZ back=>?_
 exact back g R aC (.refl _) (bZ.fresh e)
theorem b9.unpack(ok:cS sc env){ps:List (Nat×Pos)}{ds:List D}{v:Value}{k:aO->Prop}{bw:List Expr}{b0:Nat}{pos:Pos}(he:bw=ps.map fun p=>.Name (nm p.1) p.2)(bc:∀p∈ps,eS sc (nm p.1)=true/\p.1<d6.length)(aA:Rep w g (.tup ds) v)(h:o8 (ps.map (·.1)) ds ρ k):
  b9 B n env (assign (.Tuple bw b0 pos) env v) ρ g fun Z ρ' Z=>k ρ':=by
 subst he
 refine .of fun A E s R K aI S kt=>?_
 refine aW S.lN fun l bZ Z=>?_
 refine c0 aA fun a ae Du aw ai=>?_
 subst Du
 refine aW (bZ.dJ _ _ aw) fun o aD ak=>?_
 have Fj:∀ps:List (Nat×Pos),assignEach (ps.map fun p=>.Name (nm p.1) p.2) env=ps.map fun p=>(false,fun v=>assign (.Name (nm p.1) p.2) env v):=fun ps=>by
  induction ps with
  | nil=>rfl
  | cons p ps c9=>rw[List.map_cons,List.map_cons,<- c9];rfl
 refine wpAny_assign_Tuple aI.1 (ak.yt aD) (by rw[Fj,List.length_map,List.size_toArray,ai.length,<- JN h,List.length_map]) (by rw[Fj,List.findIdx?_eq_none_iff];intro x aE;refine aW (List.mem_map.mp aE) fun p Z abm=>?_;subst abm;rfl) fun aC aE=>?_
 have e:(assignEach (ps.map fun p=>.Name (nm p.1) p.2) env).map (fun x=>x.2)=ps.map fun p=>fun v=>assign (.Name (nm p.1) p.2) env v:=by rw[Fj,List.map_map];rfl
 exact e.symm▸(b9.run (b9.assignAll ok bc ai h) aI (s:={s with heap:=aC}) (S.fresh aE) fun Z ρ' ao gw iM ex av hQ=>kt () ρ' ao gw iM ex av hQ)
noncomputable def Dv(xs:List Nat)(W:bG):bh:=fun ρ k=>W ρ fun d aY=>match d with|.tup ds=>o8 xs ds aY fun bW=>k .cx bW|_=>False
theorem XY{ps:List (Nat×Pos)}{bw:List Expr}{b0:Nat}{oB pos:Pos}{value:Expr}{W:bG}(h:bI B n sc value W)(he:bw=ps.map fun p=>.Name (nm p.1) p.2)(bc:∀p∈ps,eS sc (nm p.1)=true/\p.1<d6.length)(aw:∀env,swapsWithSole [.Tuple bw b0 oB] value pos.line env=pure false:=by intro Z;rfl)(ai:∀env,swappedStores [.Tuple bw b0 oB] value env=pure none:=by intro Z;rfl):dp B n sc (.Assign [.Tuple bw b0 oB] value pos) (Dv (ps.map (·.1)) W):=fun env ok ρ g Q aL=>by
 refine .of fun A E s R K aI S k=>Assign_Tuple (b9.run (.eD (h env ok ρ g _ aL)) aI S fun v aY bQ cn ic eI ⟨d,hd,iv⟩ cM=>?_) (aw env) (ai env)
 split at iv
 ·exact b9.run (b9.unpack (n:=n) ok he bc hd iv) aI cM fun Z bW cH cz dz eJ av cC=>k _ bW cH cz dz (eI.trans eJ) ⟨.cx,trivial,av⟩ cC
 ·exact iv.elim
noncomputable def aej(xs:List Nat)(d:D)(ρ:aO)(k:aO->Prop):Prop:=match d with|.tup bw=>o8 xs bw ρ k|_=>False
noncomputable abbrev Dw(xs:List Nat)(dr:List Nat)(W:bG)(cO:bh):bh:=Db (aej xs) dr W cO
theorem UQ{bw:List Expr}{b0:Nat}{oB:Pos}{bU:Addr}{o:Obj}{v:Value}{A:Around}{E:Value->Shared->Prop}{s:Shared}{K:Unit->Shared->Prop}(ho:s.heap.get? bU=some o)(bb:o.cls=.type "list_iterator"∨o.cls=.type "tuple_iterator"∨o.cls=.type "dict_keyiterator"∨o.cls=.type "range_iterator")(k:K () s):wpAny (model bD w) A (letOwnedTupleGo (.Tuple bw b0 oB) (.ref bU) v) K E s:=by
 cases v with
 | ref a=>
  refine wpAny_bind (wpAny_load ho ?_)
  have key:∀T:String,T="list_iterator"∨T="tuple_iterator"∨T="dict_keyiterator"∨T="range_iterator"->(["enumerate","zip","dict_itemiterator","dict_reverseitemiterator","odict_iterator","itertools.zip_longest","itertools.pairwise"].contains T)=false:=by
   rintro T (rfl|rfl|rfl|rfl) <;> decide
  obtain⟨cl,lg,ah6,sl⟩:=o
  have:∃T,cl=.type T/\(["enumerate","zip","dict_itemiterator","dict_reverseitemiterator","odict_iterator","itertools.zip_longest","itertools.pairwise"].contains T)=false:=by
   rcases bb with e|e|e|e
   ·exact⟨_,e,key _ (.inl rfl)⟩
   ·exact⟨_,e,key _ (.inr (.inl rfl))⟩
   ·exact⟨_,e,key _ (.inr (.inr (.inl rfl)))⟩
   ·exact⟨_,e,key _ (.inr (.inr (.inr rfl)))⟩
  refine aW this fun T abn eX=>?_
  subst abn
  cases ah6 with
  | fields ae=>
   show wpAny _ _ (if ((_:Bool)&&_)=true then _ else _) _ _ _
   rw[eX,Bool.false_and,if_neg Bool.false_ne_true]
   exact wpAny_pure k
  | _=>exact wpAny_pure k
 | _=>exact wpAny_pure k
theorem XZ{ps:List (Nat×Pos)}{dr:List Nat}{bw:List Expr}{b0:Nat}{oB pos:Pos}{iter:Expr}{body:List Stmt}{W:bG}{cO:bh}(h:bI B n sc iter W)(aS:SB B n sc body cO)(he:bw=ps.map fun p=>.Name (nm p.1) p.2)(bc:∀p∈ps,eS sc (nm p.1)=true/\p.1<d6.length)(hf:∀env y,foldedSetIterable iter env y=pure y:=by intro Z Z;rfl):dp B n sc (.For (.Tuple bw b0 oB) iter body [] pos) (Dw (ps.map (·.1)) dr W cO):=
 Ld h aS hf (fun env ok d v ρ g k aA av=>by
  cases d with
  | tup ds=>exact .unpack (n:=n) ok he bc aA av
  | _=>exact av.elim) fun env bU o v A E s K cR bb k=>UQ cR bb k
theorem UR{aH aK pos:Pos}:pM B n sc (.List [.List [] aH,.List [] aK] pos) (vU 2):=fun env ok ρ g Q aL=>by
 refine .of_eq (t':=(do
  PySem.standAt pos
  let ae <- (do
   let v <- (do PySem.standAt aH;newList [])
   let here <- (Pure.pure [v]:Sem (List Value))
   return here++(<- PySem.holding here (do
    let u <- (do PySem.standAt aK;newList [])
    let there <- (Pure.pure [u]:Sem (List Value))
    return there++(<- PySem.holding there (Pure.pure []:Sem (List Value))))))
  newList ae)) rfl (.standAt (.lT ?_))
 intro A E s R K aI S k
 refine wpAny_bind (wpAny_bind (wpAny_bind (wpAny_standAt (wpAny_newObj_type ?_ (Nat.zero_le _)))))
 refine wpAny_bind (wpAny_pure (wpAny_bind (wpAny_holding (wpAny_bind (wpAny_bind (wpAny_standAt (wpAny_newObj_type ?_ (Nat.zero_le _))))))))
 refine wpAny_bind (wpAny_pure (wpAny_bind (wpAny_holding (wpAny_pure (wpAny_pure (wpAny_pure ?_))))))
 refine wpAny_newObj_type ?_ (show (2:Nat)<=sizeLine from by decide)
 have aD:(s.heap.push {cls:=.type "list",data:=.seq #[]}).objs.size=s.heap.objs.size+1:=Heap.size_push ..
 have ak:((s.heap.push {cls:=.type "list",data:=.seq #[]}).push {cls:=.type "list",data:=.seq #[]}).objs.size=s.heap.objs.size+2:=by rw[Heap.size_push,aD]
 have cM:=(S.push {cls:=.type "list",data:=.seq #[]}).push {cls:=.type "list",data:=.seq #[]}
 rw[aD] at cM
 have cC:=cM.push (lst [.ref s.heap.objs.size,.ref (s.heap.objs.size+1)])
 rw[ak] at cC
 refine bS (cC.freeze (P:=gQ [.ref s.heap.objs.size,.ref (s.heap.objs.size+1)]) ⟨0,rfl⟩) fun dq ex=>?_
 simp only[aD,ak]
 exact(k (.ref (s.heap.objs.size+2)) _ [(s.heap.objs.size,lst []),(s.heap.objs.size+1,lst [])] _ s.toks ⟨ex,.mt (s.heap.objs.size+2) (.lists [[],[]]),⟨rfl,_,iE ..,wV _ [] 0 _ _ rfl rfl (by unfold bE;rfl) ⟨_,[],0,_,_,rfl,rfl,by unfold bE;rfl,rfl,rfl⟩⟩,aL _⟩ (dq.perm (List.Perm.swap _ _ _)))
end
section
variable {w:World} {B:bC w} {n:Nat} {env:Env} {ρ:aO} {g:G} {sc:List (Str×NameKind)}
theorem abo{l:a7}{h:Heap}(S:bx B g l h):CodeHd h 798 796:=
 afJ _ _ _ _ _ _ _ _ _ (gx S 798 _ (by rfl)) rfl rfl rfl rfl rfl rfl rfl ⟨rfl,by decide⟩
theorem VW{l:a7}{h:Heap}(S:bx B g l h):h.BuiltinsAt B.mg 796:=by
 refine EB B.bmain fun bm o aw ai a3 bn bN cw=>?_
 exact EK bm o aw ai a3 bn (S.stays _ _ bN) cw
theorem X0{j:Nat}{q:Str}{pos:Pos}{cl:List (Str×Addr)}{ln:Nat}(agj:env.globals=mainGlobals)(abp:env.code=.ref 798)(jK:closureFor (cP j).scope env=pure cl):
  eG B n (makeFunction "<lambda>" q (cP j).params (.expr (cP j).body) (cP j).scope env [] [] [] pos ln) g [(796,tabObj #[])] fun v ao ms'=>Ext g ao/\fB w ao 796 .k2 ms'/\
   ∃a cV pm fX,v=.ref a/\ao a=f7 (tB j cl cV q pm fX)/\ao cV=some (y1 q):=by
 intro A E s R K aI S k
 have dj:=S.own (796,_) (.head _)
 refine kla_makeFunction (mg:=B.mg) (ps:=#[]) (c:=798) (P:=796) jK agj (B.rq.keeps S.stays) abp (abo S) dj trivial (by rfl) (by decide) (VW S) fun cV fX aC dx aE Ob fY aek agk=>?_
 have cM:bx B g ((796,tabObj (#[]++#[rawInt pos.line,rawInt pos.col,.ref cV]))::R) aC:=by
  have bp:=S.apart (796,tabObj #[]) (.head _)
  refine⟨S.base,fun b P e=>?_,fun p bc=>?_,fun p bc=>?_,S.nodup⟩
  ·have aS:b≠796:=by rintro rfl;replace e:=bp▸e;exact ns e
   refine aW (S.dJ b P e) fun y aD ak=>?_
   exact⟨y,aE _ _ aS aD,ak⟩
  ·rcases List.mem_cons.mp bc with rfl|bc
   ·exact agk
   ·have:p.1≠796:=fun e=>(List.nodup_cons.mp S.nodup).1 (List.mem_map.mpr ⟨p,bc,e⟩)
    exact aE _ _ this (S.own p (.tail _ bc))
  ·rcases List.mem_cons.mp bc with rfl|bc
   ·exact bp
   ·exact S.apart p (.tail _ bc)
 refine h9 aek fun c₀ rN ae xE Gc agl w0 aL=>?_
 injection Gc with Gc;subst Gc
 have hn:g cV=none:=by
  cases e:g cV with
  | none=>rfl
  | some O9=>exact absurd (S.lt e) (Nat.not_lt.mpr Ob)
 have cC:bx B (put g cV (y1 q)) ((796,tabObj (#[]++#[rawInt pos.line,rawInt pos.col,.ref cV]))::R) aC:=by
  refine⟨fun b bK e=>yq hn b _ (cM.base b bK e),fun b O9 e=>?_,cM.own,fun p bc=>?_,cM.nodup⟩
  ·unfold put at e
   split at e
   ·rename_i mw;subst mw;obtain rfl:=Option.some.inj e;exact i12 rN agl ⟨ae,xE,w0,aL⟩
   ·exact cM.dJ b O9 e
  ·have ael:p.1<s.heap.objs.size:=by
    rcases List.mem_cons.mp bc with rfl|bc
    ·exact Heap.lt_size dj
    ·exact Heap.lt_size (S.own p (.tail _ bc))
   have:p.1≠cV:=fun e=>absurd (e▸ael) (Nat.not_lt.mpr Ob)
   exact(if_neg this).trans (cM.apart p bc)
 refine bS ((cC.push (tB j cl cV q ((B.mg "__name__").getD .none) fX)).freeze (P:=Eq (tB j cl cV q ((B.mg "__name__").getD .none) fX)) rfl) fun hG ex=>?_
 exact k _ _ [(796,tabObj (#[]++#[rawInt pos.line,rawInt pos.col,.ref cV]))] _ dx ⟨(yq hn).trans ex,⟨rfl,_,rfl⟩,_,cV,_,fX,rfl,iE ..,ex _ _ (iE ..)⟩ hG
theorem CI:∀{ρ:aO} {ae:List Value} {x y:Nat} {U:V},dX (st ρ x U) ae y=dX ρ ae y
 | [],Z,bt,cD,et=>rfl
 | (z,W)::ρ,[],x,y,U=>by
  unfold st;split <;> rfl
 | (z,W)::ρ,v::ae,x,y,U=>by
  unfold st
  by_cases q:x=z
  ·rw[if_pos q];rfl
  ·rw[if_neg q];dsimp only[dX]
   by_cases r:y=z
   ·rw[if_pos r,if_pos r]
   ·rw[if_neg r,if_neg r];exact CI
theorem VX{i j:Nat}(bL:j<d6.length)(h:nm i=nm j):i=j:=by
 by_cases aN:i<d6.length
 ·exact sv aN bL h
 ·exfalso
  have aw:nm i=Str.ofString "?":=by unfold nm;exact(List.getD_eq_getElem?_getD).symm▸(List.getElem?_eq_none (Nat.not_lt.mp aN)).symm▸rfl
  exact(show ∀k<d6.length,nm k≠Str.ofString "?" from by decide +kernel) j bL (h▸aw)
theorem dP.cut{x:Nat}{d:D}{U:V}{m:Str->Option Value}{c₁ c₂:a7}{ae:List Value}{ca:Addr}{o:Obj}{v:Value}{ao:G}(T:dP env m (c₁++(ca,o)::c₂) g ρ ae)(av:env.kindOf (nm x)=some .cell)(aF:bT ρ x=some U)(aP:dX ρ ae x=some v)(iw:env.cells.lookup (nm x)=some ca)(Fk:∀bK,(ca,bK)∉c₁++c₂)(ex:Ext g ao)(cR:ao ca=some (iQ v)):dP env m (c₁++c₂) ao (st ρ x (.cf d)) ae:=by
 have mem:∀b bK,b≠ca->(b,bK)∈c₁++(ca,o)::c₂->(b,bK)∈c₁++c₂:=fun b bK aS hm=>by
  simp only[List.mem_append,List.mem_cons,Prod.mk.injEq,aS,false_and,false_or] at hm ⊢
  exact hm
 refine⟨fun y u bj=>?_,fun y bj bb=>?_,T.inj,fun y u bj=>T.g6 y u (CI▸bj),fun z ey a5=>?_⟩
 ·replace bj:=CI▸bj
  have ox:=T.var y u bj
  have fix:∀ey,env.cells.lookup (nm y)=some ey->((∃fM,(ey,fM)∈c₁++(ca,o)::c₂/\fM.data=.cell (some u))∨g ey=some (iQ u))->((∃fM,(ey,fM)∈c₁++c₂/\fM.data=.cell (some u))∨ao ey=some (iQ u)):=by
   intro ey i0 ib
   by_cases q:ey=ca
   ·subst q
    have agm:y=x:=sv (T.g6 y u bj) (T.g6 x v aP) (T.inj _ _ _ i0 iw)
    subst agm
    replace bj:=aP▸bj;obtain rfl:=Option.some.inj bj
    exact .inr cR
   ·exact ib.imp (fun Ds=>by refine aW Ds fun fM a b=>?_;exact⟨fM,mem _ _ q a,b⟩) (ex _ _)
  unfold fR at ox ⊢
  cases ez:env.kindOf (nm y) with
  | none=>trivial
  | some k'=>
   rw[ez] at ox
   cases k' with
   | cell=>obtain⟨ey,i0,ib⟩:=ox;exact⟨ey,i0,fix ey i0 ib⟩
   | free=>obtain⟨ey,i0,ib⟩:=ox;exact⟨ey,i0,fix ey i0 ib⟩
   | _=>exact ox
 ·by_cases q:y=x
  ·subst q
   rw[L6 aF] at bb
   exact absurd rfl bb
  ·refine hN (T.own y bj (by rwa [JM q] at bb)) fun ey fM cV f1 f2 dL=>?_
   have kn:ey≠ca:=by
    rintro rfl
    exact q (VX (T.g6 x v aP) (T.inj _ _ _ f1 iw))
   exact ji ey fM cV f1 (mem _ _ kn f2) dL
 ·by_cases q:ey=ca
  ·subst q;exact .inr ⟨_,cR⟩
  ·exact(T.jH z ey a5).imp (fun abq=>by refine dc abq fun fM cV a b=>?_;exact hx fM cV (mem _ _ q a) b) fun abr=>by obtain⟨P,dj⟩:=abr;exact⟨P,ex _ _ dj⟩
theorem b9.Tu{α:Type}{t:Sem α}{Q:α->aO->G->Prop}{x:Nat}{d:D}(av:env.kindOf (nm x)=some .cell)(aF:bT ρ x=some (.aX d))(h:∀ao v ca,Ext g ao->env.cells.lookup (nm x)=some ca->ao ca=some (iQ v)->Rep w ao d v->b9 B n env t (st ρ x (.cf d)) ao Q):b9 B n env t ρ g Q:=fun m cs ae ms T bu=>by
 refine fq (gV bu aF) fun v m₁ m₂ aD Df bz b5=>?_
 obtain⟨rfl,ak⟩:=Df
 have aP:=T.var x v aD
 unfold fR at aP
 rw[av] at aP
 refine cps fun ed bR=>?_
 obtain⟨ca,iw,aP⟩:=aP
 refine hN (T.own x av (by rw[aF];simp[V.eV])) fun ey bK cV f1 f2 dL=>?_
 refine bR ?_
 clear bR
 replace f1:=iw▸f1
 obtain rfl:=Option.some.inj f1
 refine iY (List.append_of_mem f2) fun c₁ c₂ abt=>?_
 subst abt
 have go:∀(Fk:∀hB,(ca,hB)∉c₁++c₂) (ao:G),Ext g ao->ao ca=some (iQ v)->da B n env.locals t m ao ((c₁++c₂)++ms) (rr w env g Q):=by
  intro Fk ao ex cR
  refine aW (b5 ao (.cf d) [] ex ⟨rfl,ak.mono ex⟩) fun m₄ dH bt=>?_
  refine da.perm (ms':=(c₁++c₂)++m₄) (List.Perm.append_left _ (bz.trans bt.symm)) ?_
  exact(h ao v ca ex iw cR (ak.mono ex) m (c₁++c₂) ae m₄ (T.cut (d:=d) av aF aD iw Fk ex cR) dH).mono fun Z Z Z Z z=>z.up ex
 intro A E s R K aI F k
 have aem:∀hB,(ca,hB)∉c₁++c₂:=by
  intro hB hm
  have i3:=F.cb.nodup
  simp only[List.map_append,List.map_cons,List.nodup_append,List.nodup_cons,List.mem_append,List.mem_map,List.mem_cons] at i3
  rcases List.mem_append.mp hm with hm|hm
  ·exact absurd rfl (i3.1.1.2.2 ca ⟨_,hm,rfl⟩ ca (.inl rfl))
  ·exact i3.1.1.2.1.1 ⟨_,hm,rfl⟩
 have aen:bK.data=.cell (some v):=by
  rcases aP with⟨fM,aw,ai⟩|aP
  ·have:fM=bK:=by
    exact Option.some.inj ((F.cb.own (ca,fM) (by simp only[List.mem_append];exact .inl (.inl (by simpa using aw))))▸(F.cb.own (ca,bK) (by simp)))
   exact this▸ai
  ·replace aP:=(F.cb.apart (ca,bK) (by simp))▸aP;exact ns aP
 have p:((c₁++(ca,bK)::c₂)++ms).Perm ((ca,bK)::((c₁++c₂)++ms)):=by
  rw[List.append_assoc,List.append_assoc,List.cons_append]
  exact List.perm_middle
 exact da.perm p (da.freeze (P:=iQ v) aen fun ao ex cR=>go aem ao ex cR) A E s R K aI F k
noncomputable def y9:List Nat->aO->(List D->aO->Prop)->Prop
 | [],ρ,k=>k [] ρ
 | x::xs,ρ,k=>match bT ρ x with|some (.aX d)=>y9 xs (st ρ x (.cf d)) fun ds ρ'=>k (d::ds) ρ'|_=>False
set_option tactic.hygienic true in
theorem b9.Ii{α:Type}{t:Sem α}{Q:α->aO->G->Prop}:∀{xs:List Nat} {ρ:aO} {g:G} {k:List D->aO->Prop},(∀x∈xs,env.kindOf (nm x)=some .cell)->y9 xs ρ k->
  (∀ao ds ae ρ',Ext g ao->jt ao (xs.map nm) env.cells ae->bE w ao ds ae->k ds ρ'->b9 B n env t ρ' ao Q)->b9 B n env t ρ g Q
 | [],ρ,g,k,Z,h,av=>av g [] [] ρ (.refl g) rfl (by rfl) h
 | x::xs,ρ,g,k,bb,h,av=>by
  unfold y9 at h
  split at h
  ·rename_i d aF
   refine .Tu (bb x (.head _)) aF fun ao v ca ex iw cR aA=>?_
   refine b9.mono (b9.Ii (Q:=fun v ρ' k6=>Q v ρ' k6) (fun y bj=>bb y (.tail _ bj)) h fun k6 ds ae ρ' e1 Fl ol agn=>?_) fun Z Z Z Z q=>q
   exact av k6 (d::ds) (v::ae) ρ' (ex.trans e1) ⟨v,ae,ca,rfl,iw,e1 _ _ cR,Fl⟩ (by exact dW v ae rfl (aA.mono e1) ol) agn
  ·exact h.elim
end
section
variable {w:World} {B:bC w} {n:Nat} {env:Env} {ρ:aO} {g:G} {sc:List (Str×NameKind)}
noncomputable abbrev zr:=90
noncomputable def L8(sc:List (Str×NameKind))(j:Nat)(xs:List Nat):Bool:=((cP j).scope.names.all fun p=>p.2 != .free||(sc.lookup p.1==some .cell&&(xs.map nm).contains p.1)) &&
 (xs.all fun i=>decide (i<d6.length)&&sc.lookup (nm i)==some .cell&&(cP j).scope.names.contains (nm i,NameKind.free))&&yr j==xs.map nm
theorem jt.of{g:G}{cl Oc:List (Str×Addr)}:∀{xs:List Str} {ae:List Value},(∀x∈xs,Oc.lookup x=cl.lookup x)->jt g xs cl ae->jt g xs Oc ae:=by
 intro es
 induction es with
 | nil=>
  intro Z Z h
  exact h
 | cons x xs eo=>
  intro Z he iK
  refine fq iK fun v r ca aw ai a3 bn=>?_
  exact pj v r ca aw ((he x (.head _)).trans ai) a3 (eo (fun y bj=>he y (.tail _ bj)) bn)
noncomputable def mB(x y j:Nat)(xs:List Nat)(df:List D->(D->Prop)->Prop):bh:=fun ρ k=>y9 xs ρ fun ds aY=>ag y aY fun Gd bW=>match bT bW zr with
 | some (.mt b .tab)=>df [Gd,.fn j ds] fun d=>i1 (st bW zr (.mt b .k2)) x=true/\k .cx (hr (st bW zr (.mt b .k2)) x (.aX d))
 | Z=>False
set_option tactic.hygienic true in
theorem BQ{r:bV}{x y j:Nat}{xs:List Nat}{s iR f:Str}{p dZ aH pl pc pos:Pos}{params:Arguments}{body:Expr}{Fm:Scope}{df:List D->(D->Prop)->Prop}(aA:r∈rows)(bb:bg B n r df)(hf:r.name=f)(hs:nm x=s)(w3:nm y=iR)(aE:eS sc s=true)(aS:x<d6.length)(bj:isVar sc iR=true)(cR:sc.lookup f=some .globalImplicit)(hd:(f==("__debug__":Str))=false)(jM:codeOf sc=some 798)(aeo:(params,body,Fm)=((cP j).params,(cP j).body,(cP j).scope))(Fn:L8 sc j xs=true)(ago:∀env,defaultsOf params env=([],[]):=by intro Z;rfl)(hw:∀env,swapsWith (.Call (.Name f p) [.Name iR aH,.Lambda params body Fm pl] [] pc) (some (.Name s dZ)) pos.line env=pure false:=by intro Z;rfl):
  dp B n sc (.Assign [.Name s dZ] (.Call (.Name f p) [.Name iR aH,.Lambda params body Fm pl] [] pc) pos) (mB x y j xs df):=fun env ok ρ g Q aL=>by
 subst hs w3 hf
 obtain⟨rfl,e⟩:=Prod.mk.inj aeo
 obtain⟨rfl,rfl⟩:=Prod.mk.inj e
 unfold L8 at Fn
 simp only[Bool.and_eq_true,List.all_eq_true,Bool.or_eq_true,bne_iff_ne,beq_iff_eq,decide_eq_true_eq,List.contains_iff_mem] at Fn
 refine cps fun ed bR=>?_
 obtain⟨⟨agp,Od⟩,Oe⟩:=Fn
 have L9:∀z,(z,NameKind.free)∈(cP j).scope.names->sc.lookup z=some .cell/\z∈xs.map nm:=fun z a5=>by
  rcases agp _ a5 with h|h
  ·exact absurd rfl h
  ·exact h
 refine ro (IB (env:=env) (scope:=(cP j).scope) fun z a5=>ok.wZ z (.inl (ok.jI z (L9 z a5).1))) fun cl jK w2 zW agq=>?_
 refine bR ?_
 clear bR
 intro m cs ae ms T bu
 have inj:∀a b ca,cl.lookup a=some ca->cl.lookup b=some ca->a=b:=fun a b ca aw ai=>T.inj a b ca (zW a ca aw) (zW b ca ai)
 revert m cs ae ms T bu
 intro m cs ae ms T bu
 refine(show b9 B n env (exec (.Assign [.Name (nm x) dZ] (.Call (.Name r.name p) [.Name (nm y) aH,.Lambda (cP j).params (cP j).body (cP j).scope pl] [] pc) pos) env) ρ g fun f ρ' ao=>∃a8,rt w ao ρ' a8 f/\Q a8 ρ' from ?_) m cs ae ms T bu
 clear T bu
 rw[exec_Assign_Name env _ dZ _ pos (hw env)]
 refine .standAt (.Ii (fun z a5=>ok.jI _ (Od z a5).1.2) aL fun bQ ds us aY eI Fl ol av=>.bind ?_)
 refine dc (si (B:=B) aA) fun o fd aw ai=>?_
 skip
 refine .mono (.eD (Q:=fun v ρ' ao=>∃d,Rep w ao d v/\i1 ρ' x=true/\Q .cx (hr ρ' x (.aX d))) (.bind (.glob ok (B.nm r aA) cR hd (.vq aw ai (fun Z=>rfl) ?_)))) fun v uh mn Z abu=>by refine eT abu fun d hd k7 agr=>?_;exact .standAt (.bind (.v3 ok aE aS hd k7 (.pure ⟨.cx,trivial,agr⟩)))
 refine .of_eq (t':=(do
  let v <- eval (.Name (nm y) aH) env
  let here <- (Pure.pure [v]:Sem (List Value))
  return here++(<- PySem.holding here (do
   let u <- eval (.Lambda (cP j).params (cP j).body (cP j).scope pl) env
   let there <- (Pure.pure [u]:Sem (List Value))
   return there++(<- PySem.holding there (Pure.pure []:Sem (List Value))))))) rfl ?_
 refine .bind ((cZ (B:=B) (n:=n) bj rfl env ok aY bQ _ av).mono fun v bW cH eJ abv=>aW abv fun Gd ags xc=>.bind (.pure (.bind (.holding (.bind ?_)))))
 split at xc
 ·rename_i b aF
  refine .wrap (fun A K E s h=>kla_eval (ago env) h) (b1.mono (.turn (Q:=fun u ρ' ao=>ρ'=st bW zr (.mt b .k2)/\∃a cV pm fX,u=.ref a/\ao a=f7 (tB j cl cV (env.qual++Str.ofString "<lambda>") pm fX)/\ao cV=some (y1 (env.qual++Str.ofString "<lambda>"))) aF fun b2 cW=>?_) fun u uh mn m5 ⟨bz,a,cV,pm,fX,b5,f1,f2⟩=>?_)
  ·obtain⟨rfl,rfl⟩:=cW
   exact(X0 ok.gl (ok.pn _ jM) jK).mono fun u ao b' Dx=>by refine fW Dx fun ex rS abw=>?_;refine l0 abw fun a cV pm fX aD ak bz=>?_;exact⟨ex,.k2,rS,rfl,a,cV,pm,fX,aD,ak,bz⟩
  ·subst bz b5
   have rep:Rep w mn (.fn j ds) (.ref a):=by
    refine afG a cl cV _ pm fX us rfl f1 f2 ?_ ((ol.mono eJ).mono m5) (fun a ca h=>by exact Oe.symm▸((L9 a (agq a ca h)).2)) inj
    refine Oe.symm▸?_
    refine jt.of (fun z a5=>w2 z ?_) ((Fl.mono eJ).mono m5)
    refine aW (List.mem_map.mp a5) fun i aN abx=>?_
    subst abx
    exact(Od i aN).2
   refine .bind (.pure (.bind (.holding (.pure (.pure (.pure ?_))))))
   exact .lT ((bb mn [Gd,.fn j ds] [v,.ref a] _ (by exact dW v _ rfl (ags.mono m5) (by exact dW _ _ rfl rep (by rfl))) xc).mono fun r ao Z Du=>by obtain⟨ex,d,hd,aL⟩:=Du;exact⟨ex,d,hd,aL⟩)
 ·exact xc.elim
noncomputable def jz(B:bC w)(n:Nat)(j:Nat)(df:List D->List D->(D->Prop)->Prop):Prop:=∀(g:G) jA ds v vals k,Rep w g (.fn j jA) v->bE w g ds vals->df jA ds k->eG B n (call v vals) g [] fun r ao Z=>Ext g ao/\∃d,Rep w ao d r/\k d
noncomputable def Dy(j x:Nat)(xs:List Nat):Bool:=(cP j).scope.kind==.function&&!(cP j).scope.isCoroutine&&!(cP j).scope.isGenerator&&((cP j).scope.names.all fun p=>(cP j).scope.names.lookup p.1==some p.2&&(p.2 != .free||(xs.map nm).contains p.1)) &&
 yr j==xs.map nm&&(xs.all fun i=>decide (i<d6.length)&&(cP j).scope.names.lookup (nm i)==some .free)&&mJ (cP j).scope.names [x]&&(codeOf (cP j).scope.names).isNone
noncomputable def jA(xs:List Nat)(ds:List D):aO:=xs.zip (ds.map V.cf)
theorem JO{g:G}:∀{xs:List Nat} {ds:List D} {ae:List Value},bE w g ds ae->xs.length=ds.length->c6 w g (jA xs ds) ae []
 | [],[],Z,h,bt=>by exact⟨h,rfl⟩
 | x::xs,d::ds,Z,h,aF=>by
  refine c0 h fun v r aby aw ai=>?_
  subst aby
  exact hy v r [] [] rfl rfl ⟨rfl,aw⟩ (JO ai (by simpa using aF))
 | [],Z::bt,cD,et,h=>by simp at h
 | Z::bt,[],cD,et,h=>by simp at h
theorem BR{g:G}{cl:List (Str×Addr)}:∀{xs:List Nat} {ds:List D} {ae:List Value} {x:Nat} {v:Value},xs.length=ds.length->jt g (xs.map nm) cl ae->dX (jA xs ds) ae x=some v->x∈xs/\∃ca,cl.lookup (nm x)=some ca/\g ca=some (iQ v)
 | [],[],_,_,_,_,_,h=>by exact ns h
 | y::xs,d::ds,_,x,v,aF,⟨u,r,ca,rfl,ai,a3,bn⟩,h=>by
  unfold jA at h
  replace h:=List.zip_cons_cons▸List.map_cons▸h
  unfold dX at h
  by_cases q:x=y
  ·replace h:=(if_pos q)▸h;obtain rfl:=Option.some.inj h;subst q;exact⟨.head _,ca,ai,a3⟩
  ·replace h:=(if_neg q)▸h
   refine bS (BR (by simpa using aF) bn h) fun a b=>?_
   exact⟨.tail _ a,b⟩
 | [],_::_,_,_,_,h,_,_=>by simp at h
 | _::_,[],_,_,_,h,_,_=>by simp at h
theorem jt.at{g:G}{cl:List (Str×Addr)}:∀{xs:List Str} {ae:List Value} {x:Str},jt g xs cl ae->x∈xs->∃ca v,cl.lookup x=some ca/\g ca=some (iQ v)
 | y::xs,Z,x,⟨v,r,ca,aw,ai,a3,bn⟩,hm=>by
  rcases List.mem_cons.mp hm with rfl|hm
  ·exact hx ca v ai a3
  ·exact jt.at bn hm
theorem jz.of{j x:Nat}{xs:List Nat}{W:bG}{df:List D->List D->(D->Prop)->Prop}(aS:bI B n (cP j).scope.names (cP j).body W)(iN:Dy j x xs=true)(i9:∀q cl pm cV fX v,bindArgs (kla_fn "<lambda>" q (cP j).params (cP j).body (cP j).scope cl pm cV fX) ⟨[v],[]⟩=pure [(nm x,v)])(ei:∀cs ds k,df cs ds k->cs.length=xs.length/\∃d,ds=[d]/\i1 (jA xs cs) x=true/\W (hr (jA xs cs) x (.aX d)) fun d Z=>k d):jz B (n+1) j df:=by
 intro g cps ds v vals k aA cJ agt A E s R K aI S b0
 obtain⟨hlen,d,rfl,k7,hw⟩:=ei _ _ _ agt
 refine aW cJ.one fun u abz de=>?_
 subst abz
 refine afh aA fun a cl cV q pm fX ae abA aw ai a3 bn bN cw=>?_
 subst abA
 unfold Dy at iN
 simp only[Bool.and_eq_true,List.all_eq_true,Bool.or_eq_true,bne_iff_ne,beq_iff_eq,decide_eq_true_eq,List.contains_iff_mem,Bool.not_eq_true',Option.isNone_iff_eq_none] at iN
 obtain⟨⟨⟨⟨⟨⟨⟨s1,s2⟩,s3⟩,s4⟩,s5⟩,Pa⟩,As⟩,ah7⟩:=iN
 refine aW (S.dJ _ _ aw) fun o aD ak=>?_
 subst ak
 refine aW (S.dJ _ _ ai) fun rN f1 abB=>?_
 refine dc abB fun vs' xE f2 dL=>?_
 refine wpAny_call (kla_callFunE (by have:=aI.2.1;show A.depth<1000;lia) aD rfl s2 s3 rfl ⟨cV,rN,vs',xE,rfl,f1,f2,dL⟩ ?_)
 rw[i9]
 refine wpAny_pure (u1 ?_)
 refine ph (bx.pushCells (l:=[]) (B:=B) (g:=g) (cP j).scope.names _ cl _ (S.push {cls:=.type "frame",data:=.dict #[]})) fun cX dq fw j1 gi i4 kE i5=>?_
 rw[(Heap.size_push ..)] at fw j1 gi i4 kE i5
 have l6:(PySem.pushCells (s.heap.push {cls:=.type "frame",data:=.dict #[]}) (cP j).scope.names).Ns s.heap.objs.size (fun Z=>none):=(Heap.Ns.new s.heap (.type "frame")).keeps (pushCells_keeps _ _)
 generalize PySem.pushCells (s.heap.push {cls:=.type "frame",data:=.dict #[]}) (cP j).scope.names=H at *
 generalize dw:newEnv (kla_fn "<lambda>" q (cP j).params (cP j).body (cP j).scope cl pm (.ref cV) fX).scope s.heap.objs.size _ _ _ _ _ _ _=bv
 have fz:bv.cells=cellsFrom (s.heap.objs.size+1) (cP j).scope.names cl:=by exact congrArg _ dw.symm
 have kind:∀x,bv.kindOf x=(cP j).scope.names.lookup x:=fun x=>by rw[<- dw];rfl
 have uniq:∀x k,(x,k)∈(cP j).scope.names->(cP j).scope.names.lookup x=some k:=fun x k aE=>(s4 _ aE).1
 have KC:∀x,(cP j).scope.names.lookup x=some .free->(x,NameKind.cell)∉(cP j).scope.names:=fun x aE hm=>by have:=uniq _ _ hm;replace this:=aE▸this;contradiction
 have ok:cS (cP j).scope.names bv:=by
  refine⟨by refine dw▸?_;exact s1,by exact congrArg _ dw.symm,by exact congrArg _ dw.symm,fun x aE=>by rw[kind,aE],fun x aE=>by rw[kind,aE],fun x aE=>.inr (by rw[kind,aE]),fun x aE=>by rw[kind,aE],fun x aE=>?_,fun c bb=>by replace bb:=ah7▸bb;cases bb⟩
  rw[kind] at aE
  rcases aE with aE|aE
  ·refine dc (gi x (mem_lookup aE)) fun ca o f1 f2=>?_;exact⟨ca,by exact fz.symm▸f1⟩
  ·have hm:x∈xs.map nm:=by
    rcases(s4 _ (mem_lookup aE)).2 with h|h
    ·exact absurd rfl h
    ·exact h
   refine dc (a3.at (by exact s5.symm▸hm)) fun ca kB w2 Z=>?_
   exact⟨ca,by exact fz.symm▸(i4 _ (KC _ aE)).symm▸w2⟩
 have nh:dP bv (fun Z=>none) cX g (jA xs cps) ae:=by
  replace a3:=s5▸a3
  refine⟨fun z v aP=>?_,fun z av Z=>?_,fun z y ca a5 bj=>?_,fun z v aP=>(Pa _ (BR hlen.symm a3 aP).1).1,fun z ca a5=>?_⟩
  ·obtain⟨hm,ca,fH,c2⟩:=BR hlen.symm a3 aP
   have av:=(Pa _ hm).2
   unfold fR;rw[kind,av]
   exact⟨ca,by refine fz.symm▸(i4 _ (KC _ av)).symm▸?_;exact fH,.inr c2⟩
  ·rw[kind] at av
   refine dc (gi _ (mem_lookup av)) fun ca o f1 f2=>?_
   exact ji ca o _ (by exact fz.symm▸f1) f2 ((fw _ f2).1)
  ·rw[fz] at a5 bj
   refine i5 (fun a b c bp aS=>cw a b c bp aS) (fun a c bp=>?_) z y ca a5 bj
   refine dc (a3.at (by exact s5▸(bN a c bp))) fun fH v1 lr Ge=>?_
   replace lr:=bp▸lr;obtain rfl:=Option.some.inj lr
   exact Nat.lt_succ_of_lt (S.lt Ge)
  ·rw[fz] at a5
   rcases j1 z ca a5 with a5|⟨⟨o,ho⟩,_⟩
   ·refine dc (a3.at (by exact s5▸(bN z ca a5))) fun fH v1 lr Ge=>?_
    replace lr:=a5▸lr;obtain rfl:=Option.some.inj lr
    exact .inr ⟨_,Ge⟩
   ·exact .inl ⟨o,_,ho,(fw _ ho).1⟩
 have pL:cB B bv.locals (fun Z=>none) g ((cX++[])++R) H:=by
  rw[(show bv.locals=s.heap.objs.size from by exact congrArg _ dw.symm),List.append_nil]
  exact cB.close (dq.perm List.perm_middle) l6
 unfold mJ at As
 simp only[List.all_cons,List.all_nil,Bool.and_true,Bool.and_eq_true,decide_eq_true_eq] at As
 rw[List.forIn_cons]
 refine wpAny_bind (wpAny_bind (da.store (B:=B) (n:=n) (b2:=[]) (V:=.aX d) (v:=u) ok As.2 As.1 nh (JO bn hlen.symm) ⟨rfl,de⟩ (vM k7) A.in1 _ _ R _ (⟨aI.1,Nat.le_trans (Nat.add_le_add_left (Nat.le_succ n) _) aI.2.1,by have:=aI.2.2;have e:=in1_units A;lia⟩) (by exact pL) fun Z b3 ao ms' aC t' ⟨e,d5,vs',cr,hb,ak,d1⟩ cI=>wpAny_pure ?_))
 subst e ak
 skip
 refine wpAny_pure ⟨B.nolimit.keeps cI.cb.stays,kla_codeExpr ?_⟩
 refine aS bv ok _ g _ hw b3 d5 vs' cr hb d1 _ _ {s with heap:=aC,toks:=t'} R _ aI.deeper cI fun r m₂ cH fh cz dz cv d3=>?_
 obtain⟨gA,ex,ρ',g7,cb,cK,jN,ui,fj,av⟩:=cv
 subst gA cK
 exact b0 r cH [] cz dz ⟨ex,ui,fj,av⟩ ((d3.cb).sub (List.sublist_append_right _ _))
noncomputable def qU(x:Nat)(l9:Nat->List D->List D->(D->Prop)->Prop)(cj:cj):bG:=fun ρ k=>match bT ρ x with
 | some (.aX (.fn j cs))=>cj ρ fun ds aY=>l9 j cs ds fun d=>k d aY
 | Z=>False
set_option tactic.hygienic true in
theorem VY{x:Nat}{s:Str}{e:Expr}{rest:List Expr}{p pos:Pos}{l9:Nat->List D->List D->(D->Prop)->Prop}{cj:cj}(eg:∀j,jz B n j (l9 j))(aE:nm x=s)(aN:isVar sc s=true)(bp:hF B n sc (e::rest) cj)(he:∀env,starEach (e::rest) env=(false,eval e env)::starEach rest env:=by intro Z;rfl):bI B n sc (.Call (.Name s p) (e::rest) [] pos) (qU x l9 cj):=fun env ok ρ g Q h=>by
 subst aE
 skip
 unfold qU at h
 split at h
 ·rename_i j cs aF
  refine .bind (.name ok aN aF fun v (aP:Rep w g (.fn j cs) v)=>?_)
  refine aff aP fun a cl cV q pm fX ae X1 aw Z=>?_
  subst X1
  intro m d5 us ms T bu A E s R K aI F k
  refine callWith_function (o:=tB j cl cV q pm fX) (fd:=kla_fn "<lambda>" q (cP j).params (cP j).body (cP j).scope cl pm (.ref cV) fX) ?_
  have aS:backTo pos (starEach (e::rest) env)=(false,eval e env)::backTo pos (starEach rest env):=by rw[he];rfl
  rw[aS]
  refine evalArgs_plain ?_
  rw[<- aS]
  refine bp env ok pos ρ g _ h m d5 us ms T bu A E s R _ aI F fun ws b3 ao ms' aC t' cv cI=>?_
  refine cps fun ed bR=>?_
  obtain⟨aD,ex,ρ',cr,cb,ak,d1,ds,cJ,av⟩:=cv
  subst aD ak
  refine aW (cI.cb.dJ _ _ (ex _ _ aw)) fun o ie rP=>?_
  refine bR ?_
  clear bR
  subst rP
  refine⟨⟨ie,rfl⟩,?_⟩
  have t:b1 B n env (call (.ref a) ([]++ws)) ρ' ao fun v ρ' ao=>∃d,Rep w ao d v/\Q d ρ':=.lT ((eg j ao cs ds _ ws _ (aP.mono ex) cJ av).mono fun r ao Z X2=>by refine bS X2 fun ex X3=>?_;refine aW X3 fun d hd aL=>?_;exact⟨ex,d,hd,aL⟩)
  exact t m d5 us cr (T.mono ex cb) d1 A E {s with heap:=aC,toks:=t'} R K aI cI fun v m₂ cH fh cz dz X4 d3=>by refine X4.e fun f1 f2 bW g7 dL f4 fl jn=>?_;exact k v m₂ cH fh cz dz ⟨f1,ex.trans f2,bW,g7,dL.trans cb,f4,fl,jn⟩ d3
 ·exact h.elim
end
section
variable {w:World} {B:bC w} {n:Nat} {env:Env} {ρ:aO} {g:G} {sc:List (Str×NameKind)}
theorem bg.le{n m:Nat}{r:bV}{df:List D->(D->Prop)->Prop}(h:bg B m r df)(hm:m<=n):bg B n r df:=fun g ds vals k aA bb=>(h g ds vals k aA bb).le hm
theorem i2.le{n m:Nat}{r:bV}{df:List D->(O->Prop)->Prop}(h:i2 B m r df)(hm:m<=n):i2 B n r df:=fun g ds vals k aA bb=>(h g ds vals k aA bb).le hm
theorem ix.le{n m:Nat}{r:bV}{df:List D->List D->(D->List D->Prop)->Prop}(h:ix B m r df)(hm:m<=n):ix B n r df:=fun g l ds vals a b2 k cW aA bb=>(h g l ds vals a b2 k cW aA bb).le hm
theorem jz.le{n m:Nat}{j:Nat}{df:List D->List D->(D->Prop)->Prop}(h:jz B m j df)(hm:m<=n):jz B n j df:=fun g c ds v vals k aA hs bb=>(h g c ds v vals k aA hs bb).le hm
theorem X5{x:Nat}{s:Str}{pos' pos sY:Pos}{elt:Expr}{gens:List Comprehension}{scope:Scope}{W:bG}(h:bI B n sc (.ListComp elt gens scope sY) W)(hs:nm x=s)(bj:sc.lookup s=some .cell)(aS:x<d6.length:=by decide):
  dp B n sc (.Assign [.Name s pos'] (.ListComp elt gens scope sY) pos) (bM x W):=fun env ok ρ g Q aL=>by
 subst hs
 have aE:eS sc (nm x)=true:=by unfold eS;rw[bj]
 rw[exec_Assign_Name env _ pos' _ pos (Tr (pos:=sY) ok bj)]
 exact .standAt (.bind (.mono (.eD (h env ok ρ g _ aL)) fun v aY bQ Z iK=>by refine aW iK fun d hd bb=>?_;exact .standAt (.bind (.v3 ok aE aS hd (eu bb).1 (.pure ⟨.cx,trivial,lM (eu bb).2⟩)))))
theorem b9.Bw{α:Type}{t:Sem α}{Q:α->aO->G->Prop}{x:Nat}{a:Addr}{o:O}{d:D}(aF:bT ρ x=some (.mt a o))(hd:o.toD=some d)(h:∀ao,Ext g ao->Rep w ao d (.ref a)->b9 B n env t (st ρ x (.aX d)) ao Q):b9 B n env t ρ g Q:=fun m cs ae ms T bu=>by
 refine fq (gV bu aF) fun v m₁ m₂ aD ak bz b5=>?_
 refine da.perm (ms':=m₁++(m₂++cs)) ?_ ?_
 ·exact(bz.append_left cs).trans (List.perm_append_comm.trans (by rw[List.append_assoc]))
 refine da.sh ak.2 hd fun ao e r=>?_
 refine aW (b5 ao (.aX d) [] e ⟨rfl,ak.1▸r⟩) fun m₄ dH bt=>?_
 refine da.perm (ms':=cs++m₄) (List.perm_append_comm.trans (bt.symm.append_left cs)) ?_
 exact(h ao e r m cs ae m₄ (T.mono e (su aF rfl)) dH).mono fun Z Z Z Z z=>z.up e
noncomputable def lW(x:Nat)(W:bh):bh:=fun ρ k=>match bT ρ x with
 | some (.mt a o)=>(match o.toD with|some d=>W (st ρ x (.aX d)) k|none=>False)
 | Z=>W ρ k
set_option tactic.hygienic true in
theorem Dz{x:Nat}{s:Stmt}{W:bh}(h:dp B n sc s W):dp B n sc s (lW x W):=fun env ok ρ g Q aL=>by
 unfold lW at aL
 split at aL
 ·rename_i a o aF
  split at aL
  ·rename_i d hd;exact .Bw aF hd fun ao e r=>h env ok _ ao Q aL
  ·exact aL.elim
 ·exact h env ok ρ g Q aL
theorem X6{pos:Pos}(aE:sc.lookup ("MOST_LENGTH":Str)=some .globalImplicit):bI B n sc (.Name "MOST_LENGTH" pos) (au (.int 1000000)):=fun env ok ρ g Q h=>by
 obtain⟨t,ht⟩:=B.len
 exact .glob ok ht aE (by rfl) ⟨_,by exact⟨t,rfl⟩,h⟩
theorem T7{M:Model}{A:Around}{E:Value->Shared->Prop}{s:Shared}{value:Expr}{lo up:Option Expr}{p pos:Pos}{T id:String}{Q:Value->Shared->Prop}(ah8:M=model bD w)(aF:typeLookup (.type T) "__getitem__"=pure (some (.builtin id)))(h:wpAny M A (eval value env) (fun o eC=>wpAny M A (eval (.Slice lo up none p) env) (fun i oq=>oq.TypeIs o T/\wpAny M A (getItem o i) Q E oq) E eC) E s):wpAny M A (eval (.Subscript value (.Slice lo up none p) pos) env) Q E s:=by
 subst ah8
 skip
 refine wpAny_bind (wpAny_mono h (fun o eC cn=>wpAny_bind (wpAny_holding (wpAny_mono cn (fun i oq cz=>wpAny_bind (wpAny_standAt ?_)) fun Z Z e=>e))) fun Z Z e=>e)
 have last:wpAny (model bD w) A (operate [i,o] (getItem o i)) (fun r pK=>wpAny (model bD w) A (letTemporaryGo value o r>>=fun Z=>pure r) Q E pK) E oq:=
  wpAny_operating (wpAny_mono cz.2 (fun r pK q=>wpAny_bind (wpAny_letTemporaryGo (wpAny_pure q))) fun Z Z e=>e)
 first
  | (
    refine wpAny_bind ?_
    skip
    refine wpAny_bind (wpAny_specialOf cz.1 aF ?_)
    first
     | exact wpAny_pure (wpAny_bind last)
     | exact wpAny_bind (wpAny_pure (wpAny_bind last))
     | exact wpAny_bind last)
  | exact wpAny_bind (wpAny_specialOf cz.1 aF (wpAny_bind (wpAny_pure (wpAny_bind last))))
  | exact wpAny_bind (wpAny_specialOf cz.1 aF (wpAny_bind last))
theorem Tv{value lo:Expr}{p pos:Pos}{W1 ef:bG}(aP:bI B n sc value W1)(aF:bI B n sc lo ef):
  bI B n sc (.Subscript value (.Slice none (some lo) none p) pos) (fun ρ k=>kT (fun ρ k=>W1 ρ fun a aY=>dO (!ju a) (k a aY)) ef ρ k):=fun env ok ρ g Q h=>by
 intro m cs ae ms T bu A E s R K aI F k
 refine T7 rfl list_getitem_lookup (wpAny_mono (IE (c:=fun a=>!ju a) (sl:=sliceTo) (f:=fun l i=>l.take i.toNat) (pl:=fun Z=>.none) (pu:=id) (Ao:=fun Z=>none) (Ap:=some) aP aF (fun a i d bb e=>UI bb e) Sg (fun i h=>h.take _) ok h T bu aI F k
  fun x xs i t bP iA gS aZ=>?_) (fun u eC h=>wpAny_Slice (wpAny_evalPart_none (wpAny_evalPart_some h))) fun Z Z h=>h)
 refine wpAny_evalPart_none ⟨(iA.push _).typeIs,wpAny_getItem_list_slice (iA.push _) (Heap.IsSliceOf.new ..) .none (.int i t) .none (by decide) ?_ gS⟩
 rw[Heap.size_push]
 exact aZ
noncomputable def Cj(d:D)(ds:List D):Option D:=MH (fun l=>jC (iG fun s=>(strsOf l).bind fun xs=>if xs.length=7 then (gm xs s).map fun j=>.int (j:Nat) else none) ds) d
section
open PySem.MeetsSeq (EqGives)
theorem JP{prog:Program}{w:World}(items:Array Value)(x:Value)(e:Value->Bool)(he:∀y,y∈items->EqGives y x (e y))(j:Nat)(bL:j<items.size)(hit:e items[j]=true)(pv:∀m (hm:m<items.size),m<j->e items[m]=false){A:Around}{E:Value->Shared->Prop}{s:Shared}{K:Option PySem.Fin×Unit->Shared->Prop}(k:K (some (.done (.ret (.int j s.toks))),()) {s with toks:=s.toks+1}):∀(d i m:Nat),i+d=j->d<m->wpAny (model prog w) A (forIn (List.range' i m) (none,()) fun(i:Nat) Z=>(match items[i]? with
   | some y=>do
    if (<- eqBool y x)=true then do
     let r <- retInt (i:Int)
     pure (ForInStep.done (some r,()))
    else pure (ForInStep.yield (none,()))
   | x=>pure (ForInStep.yield (none,())):Sem (ForInStep (Option PySem.Fin×Unit)))) K E s
 | d,i,0,h,aC=>absurd aC (Nat.not_lt_zero _)
 | 0,i,m+1,h,aC=>by
  have:i=j:=(‹_›)
  subst this
  refine List.range'_succ.symm▸?_
  rw[List.forIn_cons,Array.getElem?_eq_getElem bL]
  refine wpAny_bind (wpAny_bind (he _ (Array.getElem_mem bL) prog w _ _ _ _ ?_))
  refine hit.symm▸?_
  refine wpAny_bind (?_:wpAny _ _ (retInt (i:Int)) _ _ _)
  wp_walk
  exact k
 | d+1,i,m+1,h,aC=>by
  have aN:i<items.size:=by lia
  refine List.range'_succ.symm▸?_
  rw[List.forIn_cons,Array.getElem?_eq_getElem aN]
  refine wpAny_bind (wpAny_bind (he _ (Array.getElem_mem aN) prog w _ _ _ _ ?_))
  exact(pv i aN (by lia)).symm▸(wpAny_pure (JP items x e he j bL hit pv k d (i+1) m (by lia) (Nat.lt_of_succ_lt_succ ‹_›)))
open PySem.AutoSeq1 (wpAny_loadPart') in
theorem agu(l:Addr)(items:Array Value)(n:Nat)(x:Value)(e:Value->Bool)(he:∀y,y∈items->EqGives y x (e y))(j:Nat)(bL:j<items.size)(hit:e items[j]=true)(pv:∀m (hm:m<items.size),m<j->e items[m]=false):
  Meets (Builtin.«tuple.index» ⟨[.ref l,x],[]⟩)
   (fun Z R s=>s.heap.get? l=some {cls:=.type "tuple",dict:=none,data:=.seq items n,slots:=#[]}/\R (.ok (.ret (.int j s.toks))) {s with toks:=s.toks+1}):=by
 intro prog w A R s h
 obtain⟨bc,g,d,dx,os⟩:=s;obtain⟨aF,h⟩:=h
 unfold Builtin.«tuple.index»
 simp only[Std.Legacy.Range.forIn_eq_forIn_range']
 wp_walk using wpAny_loadPart' aF
 refine JP items x e he j bL hit pv ?_ j 0 _ (by exact Nat.add_comm _ _) (by simpa using bL)
 exact wpAny_pure h
end
theorem UT:m7 (w:=w) B n "index" "tuple" (ft Cj):=.of F.plainAttrs_tuple F.slot_tuple_index F.type_tuple_index fun g d ds u ae r hd cJ e=>by
 refine ih hd e (fun h=>ns h) (fun Z Z h=>ns h) (fun Z Z h=>ns h) (fun Z Z h=>ns h) (fun l hd e=>ka cJ e fun a v aP e=>i8 aP e fun s0 t e=>aW (Option.bind_eq_some_iff.mp e) fun xs aD e=>bS (Dn e) fun a5 e=>oY e fun j F7=>.int fun A E s R K aI S Z k=>c0 hd fun a ae y aw ai=>y▸aW (S.dJ _ _ aw) fun o ie y=>?_) (fun Z Z Z h=>ns h) (fun Z Z Z Z h=>ns h)
 subst y
 have hs:=ai.strs aD
 refine bS (A3 F7) fun f1 f2=>cQ (vS hs f1) fun u de=>?_
 have bL:=(List.getElem?_eq_some_iff.mp de).1
 have aF:=StrsAre.len hs
 refine call_meets F.slot_tuple_index ⟨_,ie,rfl⟩ F.entry_tuple_index (F.args_tuple_index_2 _ _) (agu a ae.toArray 0 (.str _ t) (fun y=>isStrOf _ y) (fun y bj=>eq_isStrOf _ t hs y (by simpa using bj)) j (by simpa using bL) ?_ ?_) ⟨ie,?_⟩
 ·have:ae[j]=.str s0 u:=by exact Option.some.inj ((List.getElem?_eq_getElem bL)▸de)
  simp[this,isStrOf]
 ·intro m hm fY
  have bj:xs[m]?=some (xs[m]'(by lia)):=List.getElem?_eq_getElem _
  refine cQ (vS hs bj) fun F8 Fg=>?_
  have:ae[m]=.str (xs[m]'(by lia)) F8:=by exact Option.some.inj ((List.getElem?_eq_getElem (by simpa using hm))▸Fg)
  simp[this,isStrOf,(f2 m fY _ bj)]
 ·exact k _ _
structure cu(B:bC w)(n:Nat)(sc:List (Str×NameKind))(po:List Stmt)(W:bh):Prop where
 h:SB B n sc po W
noncomputable def vE(dr:List Nat)(T:db)(cO:bh):bh:=fun ρ k=>At (qT dr T cO ρ k)
theorem UU{dr:List Nat}{test:Expr}{body:List Stmt}{pos:Pos}{T:db}{cO:bh}(ht:ST B n sc test T)(aS:SB B n sc body cO):dp B n sc (.While test body [] pos) (vE dr T cO):=fun env ok ρ g Q aL=>Km ht aS env ok ρ g Q aL.h
@[irreducible] noncomputable def cF:List D->(D->Prop)->Prop:=fun ds k=>At (a8 sx ds k)
theorem abC:nj B n "len" (a8 c8):=⟨n9 _ _ (.blt _) aaX (by decide +kernel) (by rfl) rfl (by decide +kernel) (fun Z Z h=>h)⟩
theorem abD:nj B n "abs" (a8 mV):=⟨n9 _ _ (.blt _) aaY (by decide +kernel) (by rfl) rfl (by decide +kernel) (fun Z Z h=>h)⟩
theorem abE:nj B n "max" (a8 mW):=⟨n9 _ _ (.blt _) aaZ (by decide +kernel) (by rfl) rfl (by decide +kernel) (fun Z Z h=>h)⟩
theorem nL:nj B n "range" cF:=⟨n9 _ _ (.ty _) VP (by decide +kernel) (by rfl) rfl (by decide +kernel) (fun ds k h=>by unfold cF at h;exact h.h)⟩
theorem X7:nj B n "list" (a8 hp):=⟨n9 _ _ (.ty _) XJ (by decide +kernel) (by rfl) rfl (by decide +kernel) (fun Z Z h=>h)⟩
theorem VZ:nj B n "tuple" (a8 sy):=⟨n9 _ _ (.ty _) VQ (by decide +kernel) (by rfl) rfl (by decide +kernel) (fun Z Z h=>h)⟩
theorem abF:nj B n "str" (a8 jd):=⟨n9 _ _ (.ty _) aa1 (by decide +kernel) (by rfl) rfl (by decide +kernel) (fun Z Z h=>h)⟩
theorem abG:nj B n "sum" (a8 sX):=⟨n9 _ _ (.blt _) aa2 (by decide +kernel) (by rfl) rfl (by decide +kernel) (fun Z Z h=>h)⟩
end
section
variable {w:World} {B:bC w} {n:Nat} {env:Env} {ρ:aO} {g:G} {sc:List (Str×NameKind)}
noncomputable abbrev aU:=List D->(D->Prop)->Prop
noncomputable abbrev lq:=List D->(O->Prop)->Prop
noncomputable abbrev kL:=List D->List D->(D->List D->Prop)->Prop
noncomputable def qx:bV:=⟨"from_int",7,45,44,Value.none⟩
theorem II:qx∈rows:=List.mem_of_getElem? (i:=2) rfl
noncomputable def qQ:bV:=⟨"is_na",8,52,51,Value.none⟩
theorem KD:qQ∈rows:=List.mem_of_getElem? (i:=3) rfl
noncomputable def nx:bV:=⟨"nearest_whole",12,80,79,Value.none⟩
theorem AG:nx∈rows:=List.mem_of_getElem? (i:=7) rfl
noncomputable def qy:bV:=⟨"exponent",13,87,86,Value.none⟩
theorem IJ:qy∈rows:=List.mem_of_getElem? (i:=8) rfl
noncomputable def qG:bV:=⟨"compare",14,94,93,Value.none⟩
theorem I9:qG∈rows:=List.mem_of_getElem? (i:=9) rfl
noncomputable def nC:bV:=⟨"whole_text",17,101,100,Value.none⟩
theorem A4:nC∈rows:=List.mem_of_getElem? (i:=10) rfl
noncomputable def ny:bV:=⟨"special_text",18,108,107,Value.none⟩
theorem AJ:ny∈rows:=List.mem_of_getElem? (i:=11) rfl
noncomputable def qL:bV:=⟨"scaled",19,115,114,Value.none⟩
theorem JQ:qL∈rows:=List.mem_of_getElem? (i:=12) rfl
noncomputable def p4:bV:=⟨"significant",20,122,121,Value.none⟩
theorem Hk:p4∈rows:=List.mem_of_getElem? (i:=13) rfl
noncomputable def pZ:bV:=⟨"without_tail",21,129,128,Value.none⟩
theorem G1:pZ∈rows:=List.mem_of_getElem? (i:=14) rfl
noncomputable def qf:bV:=⟨"fixed_text",23,143,142,Value.none⟩
theorem HM:qf∈rows:=List.mem_of_getElem? (i:=16) rfl
noncomputable def qz:bV:=⟨"measures",24,150,149,Value.none⟩
theorem IK:qz∈rows:=List.mem_of_getElem? (i:=17) rfl
noncomputable def p5:bV:=⟨"chosen_form",25,157,156,Value.none⟩
theorem Hl:p5∈rows:=List.mem_of_getElem? (i:=18) rfl
noncomputable def qM:bV:=⟨"formed",26,164,163,Value.none⟩
theorem JR:qM∈rows:=List.mem_of_getElem? (i:=19) rfl
noncomputable def p0:bV:=⟨"common_texts",27,169,168,Value.none⟩
theorem G2:p0∈rows:=List.mem_of_getElem? (i:=20) rfl
noncomputable def oI:bV:=⟨"number_text",28,177,176,Value.ref 170⟩
theorem AR:oI∈rows:=List.mem_of_getElem? (i:=21) rfl
noncomputable def qg:bV:=⟨"exact_text",30,191,190,Value.none⟩
theorem HN:qg∈rows:=List.mem_of_getElem? (i:=23) rfl
noncomputable def qV:bV:=⟨"room",44,322,321,Value.none⟩
theorem Lq:qV∈rows:=List.mem_of_getElem? (i:=30) rfl
noncomputable def qH:bV:=⟨"integer",45,329,328,Value.none⟩
theorem Ja:qH∈rows:=List.mem_of_getElem? (i:=31) rfl
noncomputable def iV:bV:=⟨"character",46,336,335,Value.none⟩
theorem r8:iV∈rows:=List.mem_of_getElem? (i:=32) rfl
noncomputable def nJ:bV:=⟨"length",47,343,342,Value.none⟩
theorem BU:nJ∈rows:=List.mem_of_getElem? (i:=33) rfl
noncomputable def nG:bV:=⟨"is_atomic",48,350,349,Value.none⟩
theorem Bg:nG∈rows:=List.mem_of_getElem? (i:=34) rfl
noncomputable def mC:bV:=⟨"share",49,357,356,Value.none⟩
theorem Ck:mC∈rows:=List.mem_of_getElem? (i:=35) rfl
noncomputable def j8:bV:=⟨"get_attr",51,364,363,Value.none⟩
theorem vi:j8∈rows:=List.mem_of_getElem? (i:=36) rfl
noncomputable def qh:bV:=⟨"label_text",52,371,370,Value.none⟩
theorem HO:qh∈rows:=List.mem_of_getElem? (i:=37) rfl
noncomputable def qA:bV:=⟨"level_at",53,378,377,Value.none⟩
theorem IL:qA∈rows:=List.mem_of_getElem? (i:=38) rfl
noncomputable def iD:bV:=⟨"label_texts",54,383,382,Value.none⟩
theorem r4:iD∈rows:=List.mem_of_getElem? (i:=39) rfl
noncomputable def my:bV:=⟨"names_of",55,388,387,Value.none⟩
theorem Bn:my∈rows:=List.mem_of_getElem? (i:=40) rfl
noncomputable def qN:bV:=⟨"dim_of",56,395,394,Value.none⟩
theorem JS:qN∈rows:=List.mem_of_getElem? (i:=41) rfl
noncomputable def nD:bV:=⟨"class_attr",58,407,406,Value.none⟩
theorem A5:nD∈rows:=List.mem_of_getElem? (i:=43) rfl
noncomputable def qi:bV:=⟨"kind_order",61,414,413,Value.none⟩
theorem HP:qi∈rows:=List.mem_of_getElem? (i:=44) rfl
noncomputable def p6:bV:=⟨"common_kind",62,421,420,Value.none⟩
theorem Hm:p6∈rows:=List.mem_of_getElem? (i:=45) rfl
noncomputable def qs:bV:=⟨"to_double",69,470,469,Value.none⟩
theorem Ij:qs∈rows:=List.mem_of_getElem? (i:=52) rfl
noncomputable def qI:bV:=⟨"item_as",71,484,483,Value.none⟩
theorem Jb:qI∈rows:=List.mem_of_getElem? (i:=54) rfl
noncomputable def pR:bV:=⟨"is_atomic_kind",72,491,490,Value.none⟩
theorem Gx:pR∈rows:=List.mem_of_getElem? (i:=55) rfl
noncomputable def qj:bV:=⟨"with_names",76,517,516,Value.none⟩
theorem HQ:qj∈rows:=List.mem_of_getElem? (i:=59) rfl
noncomputable def nI:bV:=⟨"as_kind",77,522,521,Value.none⟩
theorem BD:nI∈rows:=List.mem_of_getElem? (i:=60) rfl
noncomputable def qk:bV:=⟨"is_lacking",80,536,535,Value.none⟩
theorem HR:qk∈rows:=List.mem_of_getElem? (i:=62) rfl
noncomputable def pV:bV:=⟨"compare_items",81,543,542,Value.none⟩
theorem GL:pV∈rows:=List.mem_of_getElem? (i:=63) rfl
noncomputable def pS:bV:=⟨"check_sortable",82,550,549,Value.none⟩
theorem Gy:pS∈rows:=List.mem_of_getElem? (i:=64) rfl
noncomputable def pT:bV:=⟨"compare_places",83,557,556,Value.none⟩
theorem Gz:pT∈rows:=List.mem_of_getElem? (i:=65) rfl
noncomputable def p1:bV:=⟨"compare_keys",84,564,563,Value.none⟩
theorem G3:p1∈rows:=List.mem_of_getElem? (i:=66) rfl
noncomputable def ql:bV:=⟨"merge_runs",85,571,570,Value.none⟩
theorem HS:ql∈rows:=List.mem_of_getElem? (i:=67) rfl
noncomputable def qm:bV:=⟨"merge_sort",86,576,575,Value.none⟩
theorem HU:qm∈rows:=List.mem_of_getElem? (i:=68) rfl
noncomputable def qB:bV:=⟨"each_key",87,581,580,Value.none⟩
theorem IM:qB∈rows:=List.mem_of_getElem? (i:=69) rfl
noncomputable def p7:bV:=⟨"kept_places",88,588,587,Value.none⟩
theorem Hn:p7∈rows:=List.mem_of_getElem? (i:=70) rfl
noncomputable def qC:bV:=⟨"order_by",89,596,595,Value.ref 589⟩
theorem IO:qC∈rows:=List.mem_of_getElem? (i:=71) rfl
noncomputable def j7:bV:=⟨"is_factor",91,603,602,Value.none⟩
theorem u7:j7∈rows:=List.mem_of_getElem? (i:=72) rfl
noncomputable def qt:bV:=⟨"new_frame",92,608,607,Value.none⟩
theorem Ik:qt∈rows:=List.mem_of_getElem? (i:=73) rfl
noncomputable def qn:bV:=⟨"plain_rows",93,615,614,Value.none⟩
theorem HV:qn∈rows:=List.mem_of_getElem? (i:=74) rfl
noncomputable def qo:bV:=⟨"frame_rows",94,622,621,Value.none⟩
theorem HW:qo∈rows:=List.mem_of_getElem? (i:=75) rfl
noncomputable def nz:bV:=⟨"column_names",95,627,626,Value.none⟩
theorem x5:nz∈rows:=List.mem_of_getElem? (i:=76) rfl
noncomputable def kQ:bV:=⟨"kept_attrs",96,634,633,Value.none⟩
theorem x8:kQ∈rows:=List.mem_of_getElem? (i:=77) rfl
noncomputable def qJ:bV:=⟨"lacking",97,641,640,Value.none⟩
theorem Jc:qJ∈rows:=List.mem_of_getElem? (i:=78) rfl
noncomputable def nE:bV:=⟨"pick_items",98,648,647,Value.none⟩
theorem A6:nE∈rows:=List.mem_of_getElem? (i:=79) rfl
noncomputable def pW:bV:=⟨"joined_factor",100,655,654,Value.none⟩
theorem GM:pW∈rows:=List.mem_of_getElem? (i:=80) rfl
noncomputable def pX:bV:=⟨"joined_column",101,660,659,Value.none⟩
theorem GN:pX∈rows:=List.mem_of_getElem? (i:=81) rfl
noncomputable def p8:bV:=⟨"column_keys",103,665,664,Value.none⟩
theorem Ho:p8∈rows:=List.mem_of_getElem? (i:=82) rfl
noncomputable def qD:bV:=⟨"row_keys",104,670,669,Value.none⟩
theorem IP:qD∈rows:=List.mem_of_getElem? (i:=83) rfl
noncomputable def oP:bV:=⟨"check_by",105,677,676,Value.none⟩
theorem Bo:oP∈rows:=List.mem_of_getElem? (i:=84) rfl
noncomputable def pY:bV:=⟨"matched_pairs",106,684,683,Value.none⟩
theorem GO:pY∈rows:=List.mem_of_getElem? (i:=85) rfl
noncomputable def p9:bV:=⟨"lone_places",107,689,688,Value.none⟩
theorem Hp:p9∈rows:=List.mem_of_getElem? (i:=86) rfl
noncomputable def qu:bV:=⟨"all_pairs",108,696,695,Value.none⟩
theorem Il:qu∈rows:=List.mem_of_getElem? (i:=87) rfl
noncomputable def p2:bV:=⟨"merged_pairs",109,703,702,Value.none⟩
theorem G4:p2∈rows:=List.mem_of_getElem? (i:=88) rfl
noncomputable def qp:bV:=⟨"key_column",110,710,709,Value.none⟩
theorem HX:qp∈rows:=List.mem_of_getElem? (i:=89) rfl
noncomputable def qa:bV:=⟨"other_names",111,717,716,Value.none⟩
theorem Hq:qa∈rows:=List.mem_of_getElem? (i:=90) rfl
noncomputable def qE:bV:=⟨"sort_key",112,724,723,Value.none⟩
theorem IQ:qE∈rows:=List.mem_of_getElem? (i:=91) rfl
noncomputable def qb:bV:=⟨"merge_order",113,729,728,Value.none⟩
theorem Hr:qb∈rows:=List.mem_of_getElem? (i:=92) rfl
noncomputable def ly:bV:=⟨"merge_frames",114,735,734,Value.ref 730⟩
theorem AK:ly∈rows:=List.mem_of_getElem? (i:=93) rfl
noncomputable def lD:bV:=⟨"_law_pick",116,742,741,Value.none⟩
theorem ya:lD∈rows:=List.mem_of_getElem? (i:=94) rfl
noncomputable def oJ:bV:=⟨"_law_column",117,747,746,Value.none⟩
theorem Hs:oJ∈rows:=List.mem_of_getElem? (i:=95) rfl
noncomputable def oH:bV:=⟨"_law_frame_of",118,754,753,Value.none⟩
theorem GP:oH∈rows:=List.mem_of_getElem? (i:=96) rfl
noncomputable def pU:bV:=⟨"_law_is_factor",119,761,760,Value.none⟩
theorem GA:pU∈rows:=List.mem_of_getElem? (i:=97) rfl
noncomputable def oL:bV:=⟨"_law_texts",120,766,765,Value.none⟩
theorem HY:oL∈rows:=List.mem_of_getElem? (i:=98) rfl
noncomputable def oM:bV:=⟨"_law_plain",121,773,772,Value.none⟩
theorem HZ:oM∈rows:=List.mem_of_getElem? (i:=99) rfl
noncomputable def qv:bV:=⟨"_law_less",122,780,779,Value.none⟩
theorem Im:qv∈rows:=List.mem_of_getElem? (i:=100) rfl
noncomputable def nB:bV:=⟨"_law_sorted",123,787,786,Value.none⟩
theorem uP:nB∈rows:=List.mem_of_getElem? (i:=101) rfl
noncomputable def qc:bV:=⟨"_law_before",124,794,793,Value.none⟩
theorem Ht:qc∈rows:=List.mem_of_getElem? (i:=102) rfl
noncomputable def gJ:bV:=⟨"law",125,799,798,Value.none⟩
theorem DA:gJ∈rows:=List.mem_of_getElem? (i:=103) rfl
noncomputable def GB:bh:=(ay (bM 51 (ak (ag 58) (ag 15) (f2 sW))) (ay (bM 78 (ak (au (.int 2)) (ak (ag 58) (ak (ag 51) (ag 15) (f2 fU)) (f2 gq)) (f2 fU))) (ay (bF (ew (bl (ag 78) (ag 15) (a6 hS)) (ew (eW (bl (ag 78) (ag 15) (a6 ck)) (eW (bl (ak (ag 51) (au (.int 2)) (f2 jE)) (au (.int 1)) (a6 ck)) cg)) h3)) (ay (bJ (ak (ag 51) (au (.int 1)) (f2 c7))) aJ) aJ) (ay (bJ (ag 51)) aJ))))
noncomputable def Io:bh:=(ay (bM 58 (aT (a8 mV) (aj (ak (ag 110) (au (.int 0)) (f2 item)) az))) (ay (bM 15 (ak (ag 110) (au (.int 1)) (f2 item))) (ay (bM 21 (au (.int 0))) (ay (qT [] (bl (ag 58) (ak (au (.int 10)) (ag 15) (f2 fU)) (a6 oe)) (ay (bM 15 (ak (ag 15) (au (.int 10)) (f2 fU))) (ay (kh 21 (au (.int 1)) (f2 n2)) aJ))) (ay (qT [] (bl (ag 58) (ag 15) (a6 jk)) (ay (bM 58 (ak (ag 58) (au (.int 10)) (f2 fU))) (ay (kh 21 (au (.int 1)) (f2 gq)) aJ))) (ay (bJ (ag 21)) aJ))))))
noncomputable def IR(sg:aU):bh:=(ay (bF (ew (dy (aT sg (aj (ag 110) az))) (ew (dy (aT sg (aj (ag 115) az))) h3)) (ay (bJ (au .none)) aJ) aJ) (ay (bF (eW (bl (ak (ag 110) (au (.int 1)) (f2 item)) (au (.int 0)) (a6 ck)) (eW (bl (ak (ag 115) (au (.int 1)) (f2 item)) (au (.int 0)) (a6 ck)) cg)) (ay (bM 46 (ak (ag 110) (au (.int 0)) (f2 item))) (ay (bM 80 (ak (ag 115) (au (.int 0)) (f2 item))) aJ)) (ay (bM 46 (ak (ak (ag 110) (au (.int 0)) (f2 item)) (ak (ag 115) (au (.int 1)) (f2 item)) (f2 fU))) (ay (bM 80 (ak (ak (ag 115) (au (.int 0)) (f2 item)) (ak (ag 110) (au (.int 1)) (f2 item)) (f2 fU))) (ay (bF (bl (ak (ag 110) (au (.int 1)) (f2 item)) (au (.int 0)) (a6 ck)) (ay (bM 46 (ak (ag 110) (au (.int 0)) (f2 item))) (ay (bM 80 (au (.int 0))) aJ)) (ay (bF (bl (ak (ag 115) (au (.int 1)) (f2 item)) (au (.int 0)) (a6 ck)) (ay (bM 46 (au (.int 0))) (ay (bM 80 (ak (ag 115) (au (.int 0)) (f2 item))) aJ)) aJ) aJ)) aJ)))) (ay (bF (bl (ag 46) (ag 80) (a6 ck)) (ay (bJ (au (.int 0))) aJ) aJ) (ay (bJ (dK (bl (ag 46) (ag 80) (a6 jk)) (aD (au (.int 1)) (f1 lU)) (au (.int 1)))) aJ))))
noncomputable def JT:bh:=(ay (bJ (tL (ak (ag 110) (au .none) (d7 (a6 ec))) (n4 (ak (ak (ag 110) (au (.int 0)) (f2 item)) (au (.int 0)) (d7 (a6 ck))) (ak (ak (ag 110) (au (.int 1)) (f2 item)) (au (.int 0)) (d7 (a6 ck)))))) aJ)
noncomputable def Hu:bh:=(ay (bM 78 (aT (a8 mV) (aj (ag 58) az))) (ay (dV 82 (eH az)) (ay (qT [] (bl (ag 78) (ak (au (.int 10)) (au (.int 18)) (f2 ri)) (a6 oe)) (fun Z Z=>False)) (ay (dG (dS 82 (aj (aT (a8 jd) (aj (ag 78) az)) az) (dd d9))) (ay (bF (bl (ag 58) (au (.int 0)) (a6 jk)) (ay (dG (dS 82 (aj (au (.str "-")) az) (dd d9))) aJ) aJ) (ay (dG (dS 82 az (dd BP))) (ay (bJ (iF (au (.str "")) 3 (aj (ag 82) az) (ft mL))) aJ)))))))
noncomputable def GQ:bh:=(ay (bF (bl (ag 110) (au .none) (a6 ec)) (ay (bJ (au (.str "NA"))) aJ) aJ) (ay (bF (bl (ak (ag 110) (au (.int 1)) (f2 item)) (au (.int 0)) (a6 hS)) (ay (bJ (au .none)) aJ) aJ) (ay (bF (bl (ak (ag 110) (au (.int 0)) (f2 item)) (au (.int 0)) (a6 ck)) (ay (bJ (au (.str "NaN"))) aJ) aJ) (ay (bJ (dK (bl (ak (ag 110) (au (.int 0)) (f2 item)) (au (.int 0)) (a6 hS)) (au (.str "Inf")) (au (.str "-Inf")))) aJ))))
noncomputable def Jd(kO:aU):bh:=(ay (bM 91 (ak (ak (ag 19) (au (.int 1)) (f2 gq)) (ag 21) (f2 gq))) (ay (bF (bl (ag 91) (au (.int 0)) (a6 oe)) (ay (bJ (aT kO (aj (ak (aT (a8 mV) (aj (ak (ag 110) (au (.int 0)) (f2 item)) az)) (ak (au (.int 10)) (ag 91) (f2 ri)) (f2 fU)) (aj (ak (ag 110) (au (.int 1)) (f2 item)) az)))) aJ) aJ) (ay (bJ (aT kO (aj (aT (a8 mV) (aj (ak (ag 110) (au (.int 0)) (f2 item)) az)) (aj (ak (ak (ag 110) (au (.int 1)) (f2 item)) (ak (au (.int 10)) (ak (au (.int 0)) (ag 91) (f2 gq)) (f2 ri)) (f2 fU)) az)))) aJ)))
noncomputable def G5(u8:aU)(vs:aU):bh:=(ay (bF (bl (ak (ag 110) (au (.int 0)) (f2 item)) (au (.int 0)) (a6 ck)) (ay (bJ (dN (aj (au (.int 0)) (aj (ak (au (.str "0")) (ag 19) (f2 fU)) (aj (au (.int 0)) az))))) aJ) aJ) (ay (bM 21 (aT u8 (aj (ag 110) az))) (ay (bM 58 (aT vs (aj (ag 110) (aj (ag 21) (aj (ag 19) az))))) (ay (bF (bl (ag 58) (ak (au (.int 10)) (ag 19) (f2 ri)) (a6 oe)) (fun Z Z=>False) aJ) (ay (bJ (dN (aj (dK (bl (ak (ag 110) (au (.int 0)) (f2 item)) (au (.int 0)) (a6 hS)) (au (.int 1)) (aD (au (.int 1)) (f1 lU))) (aj (aT (a8 jd) (aj (ag 58) az)) (aj (ag 21) az))))) aJ)))))
noncomputable def GR:bh:=(ay (bM 22 (aT (a8 c8) (aj (ag 101) az))) (ay (qT [] (eW (bl (ag 22) (au (.int 1)) (a6 hS)) (eW (bl (ak (ag 101) (ak (ag 22) (au (.int 1)) (f2 gq)) (f2 item)) (au (.str "0")) (a6 ck)) cg)) (ay (kh 22 (au (.int 1)) (f2 gq)) aJ)) (ay (bJ (kT (fun ρ k=>(ag 101) ρ fun a aY=>dO (ju a) (k a aY)) (ag 22))) aJ)))
noncomputable def Hv(kO:aU)(lz:aU):bh:=(ay (bM 58 (aT kO (aj (ak (aT (a8 mV) (aj (ak (ag 110) (au (.int 0)) (f2 item)) az)) (ak (au (.int 10)) (ag 76) (f2 ri)) (f2 fU)) (aj (ak (ag 110) (au (.int 1)) (f2 item)) az)))) (ay (bM 101 (iF (aT lz (aj (ag 58) az)) 3 (aj (ak (ag 76) (au (.int 1)) (f2 c7)) (aj (au (.str "0")) az)) (ft CH))) (ay (bF (bl (ag 76) (au (.int 0)) (a6 hS)) (fun Z Z=>False) aJ) (ay (bF (bl (ak (ag 110) (au (.int 0)) (f2 item)) (au (.int 0)) (a6 jk)) (ay (bJ (ak (au (.str "-")) (ag 101) (f2 c7))) aJ) aJ) (ay (bJ (ag 101)) aJ)))))
noncomputable def Ip(uG:aU)(uC:aU):bh:=(ay (Dv [92,101,21] (aT uG (aj (ag 110) (aj (ag 19) az)))) (ay (bM 14 (aT (a8 c8) (aj (aT uC (aj (ag 101) az)) az))) (ay (bM 46 (ak (aT (a8 mW) (aj (ag 21) (aj (au (.int 0)) az))) (au (.int 1)) (f2 c7))) (ay (bF (bl (ak (ag 110) (au (.int 0)) (f2 item)) (au (.int 0)) (a6 jk)) (ay (kh 46 (au (.int 1)) (f2 n2)) aJ) aJ) (ay (bJ (dN (aj (ag 14) (aj (ag 46) (aj (aT (a8 mW) (aj (ak (ak (ag 14) (au (.int 1)) (f2 gq)) (ag 21) (f2 gq)) (aj (au (.int 0)) az))) (aj (ag 21) az)))))) aJ)))))
noncomputable def G6(u9:aU):bh:=(ay (bM 14 (au (.int 1))) (ay (bM 46 (au (.int 1))) (ay (bM 76 (au (.int 0))) (ay (bM 109 (au (.int 0))) (ay (bM 56 (au (.int 0))) (ay (dF 110 [82,110] (ag 114) (ay (bM 82 (aT u9 (aj (ag 110) (aj (ag 19) az)))) (ay (bM 14 (aT (a8 mW) (aj (ag 14) (aj (ak (ag 82) (au (.int 0)) (f2 item)) az)))) (ay (bM 46 (aT (a8 mW) (aj (ag 46) (aj (ak (ag 82) (au (.int 1)) (f2 item)) az)))) (ay (bM 76 (aT (a8 mW) (aj (ag 76) (aj (ak (ag 82) (au (.int 2)) (f2 item)) az)))) (ay (bF (bl (aT (a8 mV) (aj (ak (ag 82) (au (.int 3)) (f2 item)) az)) (au (.int 100)) (a6 oe)) (ay (bM 109 (aT (a8 mW) (aj (ag 109) (aj (ak (aT (a8 c8) (aj (aT (a8 jd) (aj (aT (a8 mV) (aj (ak (ag 82) (au (.int 3)) (f2 item)) az)) az)) az)) (au (.int 2)) (f2 gq)) az)))) aJ) aJ) (ay (bF (bl (ak (ag 110) (au (.int 0)) (f2 item)) (au (.int 0)) (a6 jk)) (ay (bM 56 (au (.int 1))) aJ) aJ) aJ))))))) (ay (bM 27 (ak (ag 46) (dK (bl (ag 76) (au (.int 0)) (a6 hS)) (ak (ag 76) (au (.int 1)) (f2 c7)) (au (.int 0))) (f2 c7))) (ay (bM 87 (ak (ak (ak (ag 56) (dK (bl (ag 14) (au (.int 1)) (a6 hS)) (ak (ag 14) (au (.int 1)) (f2 c7)) (au (.int 1))) (f2 c7)) (au (.int 4)) (f2 c7)) (ag 109) (f2 c7))) (ay (bF (bl (ag 27) (ag 87) (a6 w8)) (ay (bJ (dN (aj (au (.str "fixed")) (aj (ag 76) az)))) aJ) aJ) (ay (bJ (dN (aj (au (.str "scientific")) (aj (ag 14) az)))) aJ))))))))))
noncomputable def Je(uQ:aU)(lx:aU):bh:=(ay (bM 101 (aT lx (aj (ag 110) az))) (ay (bF (bl (ag 101) (au .none) (a6 kW)) (ay (bJ (ag 101)) aJ) aJ) (ay (bF (bl (ak (ag 29) (au (.int 0)) (f2 item)) (au (.str "fixed")) (a6 ck)) (ay (bJ (aT uQ (aj (ag 110) (aj (ak (ag 29) (au (.int 1)) (f2 item)) az)))) aJ) aJ) (fun Z Z=>False))))
noncomputable def GU(uH:aU)(vt:aU):bh:=(ay (bM 31 (cE 110 [] (ag 114) (eW (bl (ag 110) (au .none) (a6 kW)) (eW (bl (ak (ag 110) (au (.int 1)) (f2 item)) (au (.int 0)) (a6 hS)) cg)) (cy (ag 110)))) (ay (bM 29 (aT uH (aj (ag 31) (aj (ag 19) az)))) (ay (bJ (cE 110 [] (ag 114) cg (cy (aT vt (aj (ag 110) (aj (ag 29) az)))))) aJ)))
noncomputable def G7(uD:aU):bh:=(ay (bJ (ak (aT uD (aj (eList (aj (ag 110) az)) (aj (ag 19) az))) (au (.int 0)) (f2 item))) aJ)
noncomputable def AT(lx:aU)(lz:aU):bh:=(ay (bM 101 (aT lx (aj (ag 110) az))) (ay (bF (bl (ag 101) (au .none) (a6 kW)) (ay (bJ (ag 101)) aJ) aJ) (ay (bF (bl (ak (ag 110) (au (.int 1)) (f2 item)) (au (.int 1)) (a6 ck)) (ay (bJ (aT lz (aj (ak (ag 110) (au (.int 0)) (f2 item)) az))) aJ) aJ) (fun Z Z=>False))))
noncomputable def Iq:bh:=(ay (bF (bl (ag 58) (au .none) (a6 ec)) (ay (bJ (au .none)) aJ) aJ) (ay (bJ (dN (aj (ag 58) (aj (au (.int 1)) az)))) aJ))
noncomputable def KE:bh:=(ay (bF (bl (ag 58) (au (.int 1000000)) (a6 hS)) (ay pq aJ) aJ) (ay (bJ (ag 58)) aJ))
noncomputable def IT:bh:=(ay (bJ (hC (aj (au (.str "integer")) (aj (aT (a8 hp) (aj (ag 36) az)) az)))) aJ)
noncomputable def A7:bh:=(ay (bJ (hC (aj (au (.str "character")) (aj (aT (a8 hp) (aj (ag 36) az)) az)))) aJ)
noncomputable def Jf:bh:=(ay (bM 43 (aD (ag 106) gX)) (ay (bF (bl (ag 43) (au (.str "NULL")) (a6 ck)) (ay (bJ (au (.int 0))) aJ) aJ) (ay (bF (ew (dy (rj (ag 106) xa)) (ew (bl (ag 43) (au (.str "language")) (a6 ck)) h3)) (ay (bJ (aT (a8 c8) (aj (aD (ag 106) dD) az))) aJ) aJ) (fun Z Z=>False))))
noncomputable def H0:bh:=(ay (bJ (ak (aD (ag 106) gX) (dN (aj (au (.str "logical")) (aj (au (.str "integer")) (aj (au (.str "double")) (aj (au (.str "character")) az))))) (d7 (a6 mem)))) aJ)
noncomputable def BV:bh:=(ay (bF (dy (rj (ag 106) xa)) (ay (yQ 106) aJ) aJ) (ay (bJ (ag 106)) aJ))
noncomputable def Ir:bh:=(ay (bF (bl (aD (ag 106) gF) (au .none) (a6 ec)) (ay (bJ (au .none)) aJ) aJ) (ay (bJ (iF (aD (ag 106) gF) 2 (aj (ag 60) az) (ft wp))) aJ))
noncomputable def x6(uI:aU):bh:=(ay (bF (ew (bl (ag 35) (au .none) (a6 ec)) (ew (bl (ag 43) (au (.str "character")) (a6 ck)) h3)) (ay (bJ (ag 35)) aJ) aJ) (ay (bF (bl (ag 43) (au (.str "logical")) (a6 ck)) (ay (bJ (dK (bl (ag 35) (au (.int 1)) (a6 ck)) (au (.str "TRUE")) (au (.str "FALSE")))) aJ) aJ) (ay (bF (bl (ag 43) (au (.str "integer")) (a6 ck)) (ay (bJ (aT (a8 jd) (aj (ag 35) az))) aJ) aJ) (ay (bJ (aT uI (aj (ag 35) (aj (au (.int 15)) az)))) aJ))))
noncomputable def It:bh:=(ay (bF (ew (bl (ag 10) (au .none) (a6 ec)) (ew (bl (ag 10) (au (.int 1)) (a6 jk)) (ew (bl (ag 10) (aT (a8 c8) (aj (ag 102) az)) (a6 hS)) h3))) (ay (bJ (au .none)) aJ) aJ) (ay (bJ (ak (ag 102) (ak (ag 10) (au (.int 1)) (f2 gq)) (f2 item))) aJ))
noncomputable def AO(lA:aU)(gE:aU)(lC:aU)(uR:aU)(e6:aU)(va:aU):bh:=(ay (bM 48 (aT gE (aj (ag 107) (aj (au (.str "levels")) az)))) (ay (bF (eW (bl (ag 48) (au .none) (a6 kW)) (eW (bl (aD (ag 107) gX) (au (.str "integer")) (a6 ck)) (eW (bl (au (.str "factor")) (aT lA (aj (ag 107) az)) (a6 mem)) cg))) (ay (bM 102 (dK (dy (aT lC (aj (ag 48) az))) (aT e6 (aj (ag 48) az)) (eList az))) (ay (bJ (cE 35 [] (aD (ag 107) dD) cg (cy (aT va (aj (ag 102) (aj (ag 35) az)))))) aJ)) aJ) (ay (bJ (cE 35 [] (aD (ag 107) dD) cg (cy (aT uR (aj (aD (ag 107) gX) (aj (ag 35) az)))))) aJ)))
noncomputable def Bh(vu:aU)(gE:aU):bh:=(ay (bF (bl (aD (ag 106) gX) (au (.str "language")) (a6 ck)) (fun Z Z=>False) aJ) (ay (bF (bl (aD (ag 106) gX) (au (.str "environment")) (a6 ck)) (fun Z Z=>False) aJ) (ay (bM 20 (aT vu (aj (ag 106) az))) (ay (bF (eW (bl (ag 20) (au .none) (a6 kW)) (eW (bl (aT (a8 c8) (aj (ag 20) az)) (au (.int 1)) (a6 ck)) cg)) (fun Z Z=>False) aJ) (ay (bM 61 (aT gE (aj (ag 106) (aj (au (.str "names")) az)))) (ay (bF (bl (ag 61) (au .none) (a6 ec)) (ay (bJ (au .none)) aJ) aJ) (ay (bJ (aT (a8 hp) (aj (aD (ag 61) dD) az))) aJ)))))))
noncomputable def Jg(gE:aU):bh:=(ay (bM 20 (aT gE (aj (ag 106) (aj (au (.str "dim")) az)))) (ay (bF (bl (ag 20) (au .none) (a6 ec)) (ay (bJ (au .none)) aJ) aJ) (ay (bJ (aT (a8 hp) (aj (aD (ag 20) dD) az))) aJ)))
noncomputable def Hw(gE:aU):bh:=(ay (bM 30 (aT gE (aj (ag 106) (aj (au (.str "class")) az)))) (ay (bF (bl (ag 30) (au .none) (a6 ec)) (ay (bJ (eList az)) aJ) aJ) (ay (bJ (aT (a8 hp) (aj (aD (ag 30) dD) az))) aJ)))
noncomputable def Hx:bh:=(ay (bM 44 (dN (aj (au (.str "NULL")) (aj (au (.str "logical")) (aj (au (.str "integer")) (aj (au (.str "double")) (aj (au (.str "character")) (aj (au (.str "list")) (aj (au (.str "expression")) az))))))))) (ay (bF (bl (ag 43) (ag 44) (a6 mem)) (ay (bJ (iF (ag 44) 1 (aj (ag 43) az) (ft Cj))) aJ) aJ) (ay (bJ (au (.int 5))) aJ)))
noncomputable def G8(uS:aU):bh:=(ay (bM 61 (dN (aj (au (.str "NULL")) (aj (au (.str "logical")) (aj (au (.str "integer")) (aj (au (.str "double")) (aj (au (.str "character")) (aj (au (.str "list")) (aj (au (.str "expression")) az))))))))) (ay (bM 57 (au (.int 0))) (ay (dF 43 [43] (ag 44) (ay (bM 57 (aT (a8 mW) (aj (ag 57) (aj (aT uS (aj (ag 43) az)) az)))) aJ)) (ay (bJ (ak (ag 61) (ag 57) (f2 item))) aJ))))
noncomputable def H1(vb:aU):bh:=(ay (bF (ew (bl (ag 43) (au (.str "double")) (a6 ck)) (ew (bl (ag 35) (au .none) (a6 ec)) h3)) (ay (bJ (ag 35)) aJ) aJ) (ay (bF (bl (ag 43) (au (.str "character")) (a6 ck)) (fun Z Z=>False) aJ) (ay (bJ (aT vb (aj (ag 35) az))) aJ)))
noncomputable def IU(ut:aU)(u2:aU):bh:=(ay (bF (bl (ag 43) (ag 103) (a6 ck)) (ay (bJ (ag 35)) aJ) aJ) (ay (bF (ew (bl (ag 103) (au (.str "list")) (a6 ck)) (ew (bl (ag 103) (au (.str "expression")) (a6 ck)) (ew (bl (ag 103) (au (.str "pairlist")) (a6 ck)) h3))) (fun Z Z=>False) aJ) (ay (bF (xI (dy (aT ut (aj (ag 43) az)))) (fun Z Z=>False) aJ) (ay (bF (bl (ag 103) (au (.str "logical")) (a6 ck)) (fun Z Z=>False) aJ) (ay (bF (bl (ag 103) (au (.str "integer")) (a6 ck)) (fun Z Z=>False) aJ) (ay (bF (bl (ag 103) (au (.str "double")) (a6 ck)) (ay (bJ (aT u2 (aj (ag 43) (aj (ag 35) (aj (ag 62) az))))) aJ) aJ) (fun Z Z=>False)))))))
noncomputable def Gs:bh:=(ay (bJ (ak (ag 43) (dN (aj (au (.str "logical")) (aj (au (.str "integer")) (aj (au (.str "double")) (aj (au (.str "character")) az))))) (d7 (a6 mem)))) aJ)
noncomputable def Hy(e7:aU)(lI:aU):bh:=(ay (bF (bl (ag 61) (au .none) (a6 kW)) (ay (ke 106 2 (sM ["names"] (aj (aT lI (aj (aT e7 (aj (ag 61) az)) az)) az))) aJ) aJ) (ay (bJ (ag 106)) aJ))
noncomputable def IV(vj:aU)(lE:aU)(uT:aU):bh:=(ay (bF (xI (dy (rj (ag 106) xa))) (fun Z Z=>False) aJ) (ay (bM 36 (aD (ag 106) dD)) (ay (bF (bl (aD (ag 106) gX) (ag 43) (a6 gf)) (ay (bM 36 (cE 35 [] (aD (ag 106) dD) cg (cy (aT vj (aj (aD (ag 106) gX) (aj (ag 35) (aj (ag 43) (aj (ag 62) az)))))))) aJ) aJ) (ay (bJ (aT uT (aj (hC (aj (ag 43) (aj (aT (a8 hp) (aj (ag 36) az)) az))) (aj (aT lE (aj (ag 106) az)) az)))) aJ))))
noncomputable def AU:bh:=(ay (bJ (tL (ak (ag 35) (au .none) (d7 (a6 ec))) (n4 (ak (ag 43) (au (.str "double")) (d7 (a6 ck))) (ak (ag 35) (dN (aj (au (.int 0)) (aj (au (.int 0)) az))) (d7 (a6 ck)))))) aJ)
noncomputable def GC(vk:aU):bh:=(ay (bF (bl (ag 43) (au (.str "double")) (a6 ck)) (ay (bJ (aT vk (aj (ag 1) (aj (ag 6) az)))) aJ) aJ) (ay (bF (bl (ag 1) (ag 6) (a6 jk)) (ay (bJ (aD (au (.int 1)) (f1 lU))) aJ) aJ) (ay (bF (bl (ag 1) (ag 6) (a6 hS)) (ay (bJ (au (.int 1))) aJ) aJ) (ay (bJ (au (.int 0))) aJ))))
noncomputable def Gu:bh:=(ay (bF (bl (aD (ag 106) gX) (dN (aj (au (.str "logical")) (aj (au (.str "integer")) (aj (au (.str "double")) (aj (au (.str "character")) az))))) (a6 ip)) (ay pq aJ) aJ) aJ)
noncomputable def Gv(uy:aU)(r5:aU):bh:=(ay (bM 46 (ak (aD (ag 106) dD) (ag 34) (f2 item))) (ay (bM 80 (ak (aD (ag 106) dD) (ag 37) (f2 item))) (ay (bM 47 (aT r5 (aj (aD (ag 106) gX) (aj (ag 46) az)))) (ay (bM 81 (aT r5 (aj (aD (ag 106) gX) (aj (ag 80) az)))) (ay (bF (eW (dy (ag 47)) (eW (dy (ag 81)) cg)) (ay (bJ (au (.int 0))) aJ) aJ) (ay (bF (dy (ag 47)) (ay (bJ (dK (dy (ag 59)) (au (.int 1)) (aD (au (.int 1)) (f1 lU)))) aJ) aJ) (ay (bF (dy (ag 81)) (ay (bJ (dK (dy (ag 59)) (aD (au (.int 1)) (f1 lU)) (au (.int 1)))) aJ) aJ) (ay (bM 79 (aT uy (aj (aD (ag 106) gX) (aj (ag 46) (aj (ag 80) az))))) (ay (bJ (dK (dy (ag 16)) (aD (ag 79) (f1 lU)) (ag 79))) aJ)))))))))
noncomputable def GV(uv:aU):bh:=(ay (dF 63 [63,79] (aT cF (aj (aT (a8 c8) (aj (ag 108) az)) az)) (ay (bM 79 (aT uv (aj (ak (ag 108) (ag 63) (f2 item)) (aj (ag 34) (aj (ag 37) (aj (ak (ag 16) (ag 63) (f2 item)) (aj (ag 59) az))))))) (ay (bF (bl (ag 79) (au (.int 0)) (a6 gf)) (ay (bJ (ag 79)) aJ) aJ) aJ))) (ay (bJ (au (.int 0))) aJ))
noncomputable def Hz(uE:aU):bh:=(ay (dV 54 (eH az)) (ay (bM 34 (au (.int 0))) (ay (bM 37 (au (.int 0))) (ay (vE [] (eW (bl (ag 34) (aT (a8 c8) (aj (ag 46) az)) (a6 jk)) (eW (bl (ag 37) (aT (a8 c8) (aj (ag 80) az)) (a6 jk)) cg)) (ay (bF (bl (aT uE (aj (ag 108) (aj (ak (ag 46) (ag 34) (f2 item)) (aj (ak (ag 80) (ag 37) (f2 item)) (aj (ag 16) (aj (ag 59) az)))))) (au (.int 0)) (a6 w8)) (ay (dG (dS 54 (aj (ak (ag 46) (ag 34) (f2 item)) az) (dd d9))) (ay (kh 34 (au (.int 1)) (f2 n2)) aJ)) (ay (dG (dS 54 (aj (ak (ag 80) (ag 37) (f2 item)) az) (dd d9))) (ay (kh 37 (au (.int 1)) (f2 n2)) aJ))) aJ)) (ay (bJ (ak (ak (ag 54) (yu (ag 46) (ag 34)) (f2 c7)) (yu (ag 80) (ag 37)) (f2 c7))) aJ)))))
noncomputable def HA(uU:aU):bh:=(ay (bM 85 (cE 75 [] (ag 76) cg (cy (eList (aj (ag 75) az))))) (ay (bF (bl (aT (a8 c8) (aj (ag 85) az)) (au (.int 0)) (a6 ck)) (ay (bJ (eList az)) aJ) aJ) (ay (vE [50] (bl (aT (a8 c8) (aj (ag 85) az)) (au (.int 1)) (a6 hS)) (ay (dV 50 (eH az)) (ay (dF 4 [4] (aT cF (aj (au (.int 0)) (aj (ak (aT (a8 c8) (aj (ag 85) az)) (au (.int 1)) (f2 gq)) (aj (au (.int 2)) az)))) (ay (dG (dS 50 (aj (aT uU (aj (ak (ag 85) (ag 4) (f2 item)) (aj (ak (ag 85) (ak (ag 4) (au (.int 1)) (f2 c7)) (f2 item)) (aj (ag 108) (aj (ag 16) (aj (ag 59) az)))))) az) (dd d9))) aJ)) (ay (bF (bl (ak (aT (a8 c8) (aj (ag 85) az)) (au (.int 2)) (f2 jE)) (au (.int 1)) (a6 ck)) (ay (dG (dS 50 (aj (ak (ag 85) (aD (au (.int 1)) (f1 lU)) (f2 item)) az) (dd d9))) aJ) aJ) (ay (bM 85 (ag 50)) aJ))))) (ay (bJ (ak (ag 85) (au (.int 0)) (f2 item))) aJ))))
noncomputable def Iu:bh:=(ay (bF (dy (rj (ag 16) Fe)) (fun Z Z=>False) aJ) (ay (bJ (ak (eList (aj (ag 16) az)) (ag 14) (f2 Dr))) aJ))
noncomputable def G9(kR:aU):bh:=(ay (dV 76 (eH az)) (ay (dF 75 [39,75] (aT cF (aj (aT kR (aj (ak (ag 108) (au (.int 0)) (f2 item)) az)) az)) (ay (bM 39 (au (.bool true))) (ay (bF (bl (ag 59) (au .none) (a6 ec)) (fun Z Z=>False) aJ) (ay (bF (dy (ag 39)) (ay (dG (dS 76 (aj (ag 75) az) (dd d9))) aJ) aJ) aJ)))) (ay (jx 76) aJ)))
noncomputable def Iv(uw:aU)(vd:aU)(uJ:aU)(kR:aU)(uV:aU):bh:=(ay (bF (bl (aT (a8 c8) (aj (ag 108) az)) (au (.int 0)) (a6 ck)) (ay (bJ (eList az)) aJ) aJ) (ay (dF 106 [106] (ag 108) (ay (dG (aT uw (aj (ag 106) az))) (ay (bF (bl (aT kR (aj (ag 106) az)) (aT kR (aj (ak (ag 108) (au (.int 0)) (f2 item)) az)) (a6 gf)) (ay pq aJ) aJ) aJ))) (ay (bM 28 (aT vd (aj (ag 16) (aj (aT (a8 c8) (aj (ag 108) az)) az)))) (ay (bJ (aT uV (aj (aT uJ (aj (ag 108) (aj (ag 59) az))) (aj (ag 108) (aj (ag 28) (aj (tL (ak (ag 59) (au .none) (d7 (a6 ec))) (ag 59)) az)))))) aJ))))
noncomputable def H2(lA:aU)(lC:aU):bh:=(ay (bJ (n4 (ak (aD (ag 106) gX) (au (.str "integer")) (d7 (a6 ck))) (n4 (ak (au (.str "factor")) (aT lA (aj (ag 106) az)) (d7 (a6 mem))) (n4 (ak (au (.str "levels")) (aD (ag 106) gF) (d7 (a6 mem))) (aT lC (aj (ak (aD (ag 106) gF) (au (.str "levels")) (f2 item)) az)))))) aJ)
noncomputable def H3(e7:aU)(lI:aU):bh:=(ay (dV 52 (w7 (aj (au (.str "list")) (aj (cE 12 [] (ag 13) cg (cy (aT lI (aj (ag 12) az)))) az)))) (ay (ke 52 2 (sM ["names","class","row.names"] (aj (aT e7 (aj (ag 61) az)) (aj (aT e7 (aj (eList (aj (au (.str "data.frame")) az)) az)) (aj (ag 83) az))))) (ay (jx 52) aJ)))
noncomputable def HB(vl:aU):bh:=(ay (bJ (aT vl (aj (aT (a8 hp) (aj (aT cF (aj (au (.int 1)) (aj (ak (ag 14) (au (.int 1)) (f2 c7)) az))) az)) az))) aJ)
noncomputable def HC:bh:=(ay (bF (ew (bl (aD (ag 17) gF) (au .none) (a6 ec)) (ew (bl (au (.str "row.names")) (aD (ag 17) gF) (a6 ip)) h3)) (ay (bJ (au (.int 0))) aJ) aJ) (ay (bJ (aT (a8 c8) (aj (aD (ak (aD (ag 17) gF) (au (.str "row.names")) (f2 item)) dD) az))) aJ))
noncomputable def GW(lE:aU):bh:=(ay (bM 61 (aT lE (aj (ag 17) az))) (ay (bJ (dK (bl (ag 61) (au .none) (a6 ec)) (eList az) (cE 60 [] (ag 61) cg (cy (dK (bl (ag 60) (au .none) (a6 ec)) (au (.str "NA")) (ag 60)))))) aJ))
noncomputable def AV:bh:=(ay (bF (bl (aD (ag 12) gF) (au .none) (a6 ec)) (ay (bJ (au .none)) aJ) aJ) (ay (dV 40 vQ) (ay (dF 60 [60] (aD (ag 12) gF) (ay (bF (bl (ag 60) (dN (aj (au (.str "names")) (aj (au (.str "dim")) (aj (au (.str "dimnames")) az)))) (a6 ip)) (ay (lP 40 (ag 60) (ak (aD (ag 12) gF) (ag 60) (f2 item))) aJ) aJ) aJ)) (ay (bF (bl (sL 40) (au (.int 0)) (a6 hS)) (jx 40) (bJ (au .none))) aJ))))
noncomputable def IW:bh:=(ay (bF (bl (ag 43) (dN (aj (au (.str "list")) (aj (au (.str "expression")) (aj (au (.str "pairlist")) az)))) (a6 mem)) (fun Z Z=>False) aJ) (ay (bJ (au .none)) aJ))
noncomputable def HD(lB:aU)(vm:aU):bh:=(ay (dV 36 (eH az)) (ay (bM 14 (aT (a8 c8) (aj (aD (ag 12) dD) az))) (ay (dF 75 [75] (ag 76) (ay (bF (ew (bl (ag 75) (au .none) (a6 ec)) (ew (bl (ag 75) (ag 14) (a6 oe)) h3)) (ay (dG (dS 36 (aj (aT vm (aj (aD (ag 12) gX) az)) az) (dd d9))) aJ) (ay (dG (dS 36 (aj (ak (aD (ag 12) dD) (ag 75) (f2 item)) az) (dd d9))) aJ)) aJ)) (ay (bJ (hC (aj (aD (ag 12) gX) (aj (ag 36) (aj (aT lB (aj (ag 12) az)) az))))) aJ))))
noncomputable def GD(e7:aU)(gk:aU)(uW:lq)(e6:aU):bh:=(ay (dV 48 (eH az)) (ay (dV 45 vQ) (ay (dF 72 [72,102] (ag 73) (ay (bM 102 (dK (dy (aT gk (aj (ag 72) az))) (aD (ak (aD (ag 72) gF) (au (.str "levels")) (f2 item)) dD) (aT e6 (aj (ag 72) az)))) (ay (dF 65 [65] (ag 102) (ay (bF (eW (bl (ag 65) (au .none) (a6 kW)) (eW (o7 true (ag 65) 45) cg)) (ay (dG (dS 48 (aj (ag 65) az) (dd d9))) (ay (lP 45 (ag 65) (sL 48)) aJ)) aJ) aJ)) aJ))) (ay (dV 11 (eH az)) (ay (dF 72 [72] (ag 73) (ay (dF 65 [65] (aT e6 (aj (ag 72) az)) (ay (dG (dS 11 (aj (dK (bl (ag 65) (au .none) (a6 ec)) (au .none) (ak (ag 45) (ag 65) (f2 item))) az) (dd d9))) aJ)) aJ)) (ay (dV 5 (yO uW (aj (ak (ag 73) (au (.int 0)) (f2 item)) az))) (ay (lP 5 (au (.str "levels")) (aT e7 (aj (ag 48) az))) (ay (bJ (hC (aj (au (.str "integer")) (aj (ag 11) (aj (ag 5) az))))) aJ))))))))
noncomputable def GF(lG:aU)(e7:aU)(uK:aU)(gk:aU)(uz:aU)(lB:aU)(e6:aU):bh:=(ay (bF (dy (aT gk (aj (ak (ag 73) (au (.int 0)) (f2 item)) az))) (ay (bJ (aT uz (aj (ag 73) az))) aJ) aJ) (ay (dV 77 (eH az)) (ay (dF 72 [72] (ag 73) (ay (dG (dS 77 (aj (dK (dy (aT gk (aj (ag 72) az))) (aT e7 (aj (aT e6 (aj (ag 72) az)) az)) (ag 72)) az) (dd d9))) aJ)) (ay (bM 43 (aT uK (aj (cE 72 [] (ag 77) cg (cy (aD (ag 72) gX))) az))) (ay (dV 36 (eH az)) (ay (dF 72 [72] (ag 77) (ay (bF (bl (aD (ag 72) gX) (ag 43) (a6 ck)) (ay (dG (dS 36 (aj (aD (ag 72) dD) az) (dd sk))) aJ) (ay (bF (bl (ag 43) (au (.str "list")) (a6 ck)) (fun Z Z=>False) (ay (dG (dS 36 (aj (aD (aT lG (aj (ag 72) (aj (ag 43) (aj (eList az) az)))) dD) az) (dd sk))) aJ)) aJ)) aJ)) (ay (bJ (hC (aj (ag 43) (aj (ag 36) (aj (aT lB (aj (ak (ag 73) (au (.int 0)) (f2 item)) az)) az))))) aJ)))))))
noncomputable def Ha(lG:aU)(uX:aU)(gk:aU)(e6:aU):bh:=(ay (bF (ew (dy (aT gk (aj (ag 12) az))) (ew (bl (aD (ag 12) gX) (dN (aj (au (.str "character")) (aj (au (.str "logical")) az))) (a6 mem)) h3)) (ay (bJ (cE 65 [] (aT e6 (aj (ag 12) az)) cg (cy (dK (bl (ag 65) (au .none) (a6 ec)) (au (.str "NA")) (ak (au (.str "=")) (ag 65) (f2 c7)))))) aJ) aJ) (ay (bF (bl (aD (ag 12) gX) (dN (aj (au (.str "integer")) (aj (au (.str "double")) az))) (a6 mem)) (ay (bM 64 (aD (aT lG (aj (ag 12) (aj (au (.str "double")) (aj (eList az) az)))) dD)) (ay (bJ (cE 65 [] (ag 64) cg (cy (dK (bl (ag 65) (au .none) (a6 ec)) (au (.str "NA")) (ak (au (.str "=")) (aT uX (aj (ag 65) az)) (f2 c7)))))) aJ)) aJ) (ay pq aJ)))
noncomputable def Iw(uL:aU):bh:=(ay (bM 73 (cE 12 [] (ag 13) cg (cy (aT uL (aj (ag 12) az))))) (ay (dV 30 (eH az)) (ay (dF 75 [75] (aT cF (aj (ag 84) az)) (ay (dG (dS 30 (aj (iF (au (.str "")) 3 (aj (cE 72 [] (ag 73) cg (cy (Fi (aT (a8 c8) (aj (ak (ag 72) (ag 75) (f2 item)) az)) ":" (ak (ag 72) (ag 75) (f2 item))))) az) (ft mL)) az) (dd d9))) aJ)) (ay (jx 30) aJ))))
noncomputable def Ix(kP:aU):bh:=(ay (bM 61 (aT kP (aj (ag 17) az))) (ay (dV 76 (eH az)) (ay (dF 60 [60] (ag 7) (ay (bF (bl (iF (ag 61) 0 (aj (ag 60) az) (ft oT)) (au (.int 1)) (a6 gf)) (ay pq aJ) aJ) (ay (dG (dS 76 (aj (iF (ag 61) 0 (aj (ag 60) az) (ft nQ)) az) (dd d9))) aJ))) (ay (jx 76) aJ))))
noncomputable def GH:bh:=(ay (dV 98 Cd) (ay (dF 75 [75] (aT cF (aj (aT (a8 c8) (aj (ag 116) az)) az)) (ay (dG (Ci 98 (ak (ag 116) (ag 75) (f2 item)) 75)) aJ)) (ay (dV 71 (eH az)) (ay (dF 75 [75] (aT cF (aj (aT (a8 c8) (aj (ag 111) az)) az)) (ay (dF 68 [68] (iF (ag 98) 2 (aj (ak (ag 111) (ag 75) (f2 item)) (aj (eList az) az)) (ft wp)) (ay (dG (dS 71 (aj (dN (aj (ag 75) (aj (ag 68) az))) az) (dd d9))) aJ)) aJ)) (ay (jx 71) aJ)))))
noncomputable def Hb:bh:=(ay (dV 45 vQ) (ay (dF 41 [41] (ag 69) (ay (lP 45 (ag 41) (au (.bool true))) aJ)) (ay (bJ (cE 75 [] (aT cF (aj (aT (a8 c8) (aj (ag 42) az)) az)) (o7 true (ak (ag 42) (ag 75) (f2 item)) 45) (cy (ag 75)))) aJ)))
noncomputable def H4(vF:aU):bh:=(ay (dG (aT vF (aj (ak (ag 26) (ag 89) (f2 fU)) az))) (ay (dV 71 (eH az)) (ay (dF 68 [68] (aT cF (aj (ag 89) az)) (ay (dF 75 [75] (aT cF (aj (ag 26) az)) (ay (dG (dS 71 (aj (dN (aj (ag 75) (aj (ag 68) az))) az) (dd d9))) aJ)) aJ)) (ay (jx 71) aJ))))
noncomputable def GX(r0:aU)(uA:lq):bh:=(ay (dV 71 (yO uA (aj (ag 111) (aj (ag 116) az)))) (ay (bF (dy (ag 2)) (ay (dF 75 [75] (aT r0 (aj (ag 111) (aj (ag 116) az))) (ay (dG (dS 71 (aj (dN (aj (ag 75) (aj (au .none) az))) az) (dd d9))) aJ)) aJ) aJ) (ay (bF (dy (ag 3)) (ay (dF 75 [75] (aT r0 (aj (ag 116) (aj (ag 111) az))) (ay (dG (dS 71 (aj (dN (aj (au .none) (aj (ag 75) az))) az) (dd d9))) aJ)) aJ) aJ) (ay (jx 71) aJ))))
noncomputable def HE(uB:aU)(j6:aU):bh:=(ay (bM 38 (aT uB (aj (eList (aj (ag 110) (aj (ag 115) az))) az))) (ay (bM 14 (aT (a8 c8) (aj (aD (ag 110) dD) az))) (ay (dV 76 (eH az)) (ay (Dw [75,68] [68,75] (ag 71) (ay (dG (dS 76 (aj (dK (bl (ag 75) (au .none) (a6 ec)) (ak (ag 14) (ag 68) (f2 c7)) (ag 75)) az) (dd d9))) aJ)) (ay (bJ (aT j6 (aj (ag 38) (aj (ag 76) az)))) aJ)))))
noncomputable def Hc:bh:=(ay (dV 30 (eH az)) (ay (dF 60 [60] (ag 61) (ay (bF (bl (ag 60) (ag 7) (a6 ip)) (ay (dG (dS 30 (aj (dK (bl (ag 60) (ag 69) (a6 mem)) (ak (ag 60) (ag 96) (f2 c7)) (ag 60)) az) (dd d9))) aJ) aJ) aJ)) (ay (jx 30) aJ)))
noncomputable def Iy:bh:=(ay (bJ (hC (aj (aD (ag 12) gX) (aj (aD (ag 12) dD) az)))) aJ)
noncomputable def Hd(e7:aU)(gk:aU)(e6:aU)(ve:aU):bh:=(ay (bF (ew (dy (ag 8)) (ew (eW (bl (aT (a8 c8) (aj (ag 13) az)) (au (.int 1)) (a6 ck)) (eW (xI (dy (aT gk (aj (ak (ag 13) (au (.int 0)) (f2 item)) az)))) cg)) h3)) (ay (bJ (cE 12 [] (ag 13) cg (cy (aT ve (aj (ag 12) az))))) aJ) aJ) (ay (bF (bl (aT (a8 c8) (aj (ag 13) az)) (au (.int 1)) (a6 ck)) (ay (bJ (eList (aj (aT e7 (aj (aT e6 (aj (ak (ag 13) (au (.int 0)) (f2 item)) az)) az)) az))) aJ) aJ) (ay (dV 84 (eH az)) (ay (bM 102 (cE 12 [] (ag 13) cg (cy (aT e6 (aj (ag 12) az))))) (ay (dF 75 [73,75] (aT cF (aj (aT (a8 c8) (aj (aD (ak (ag 13) (au (.int 0)) (f2 item)) dD) az)) az)) (ay (bM 73 (cE 82 [] (ag 102) cg (cy (ak (ag 82) (ag 75) (f2 item))))) (ay (dG (dS 84 (aj (iF (au (.str "\x0d")) 3 (aj (cE 72 [] (ag 73) cg (cy (dK (bl (ag 72) (au .none) (a6 ec)) (au (.str "NA")) (ag 72)))) az) (ft mL)) az) (dd d9))) aJ))) (ay (bJ (eList (aj (aT e7 (aj (ag 84) az)) az))) aJ))))))
noncomputable def GY(u3:aU)(r9:aU)(kP:aU)(oK:aU)(uY:aU)(uM:aU)(uF:aU)(u4:aU)(vf:aU)(r1:aU)(j6:aU)(uZ:aU)(sa:aU):bh:=(ay (bM 113 (aT r9 (aj (ag 110) (aj (ag 7) az)))) (ay (bM 118 (aT r9 (aj (ag 115) (aj (ag 7) az)))) (ay (bF (bl (aT (a8 c8) (aj (ag 7) az)) (au (.int 0)) (a6 ck)) (ay (bM 71 (aT u3 (aj (aT oK (aj (ag 110) az)) (aj (aT oK (aj (ag 115) az)) az)))) aJ) (ay (bM 111 (aT sa (aj (cE 75 [] (ag 113) cg (cy (ak (aD (ag 110) dD) (ag 75) (f2 item)))) (aj (aT oK (aj (ag 110) az)) az)))) (ay (bM 116 (aT sa (aj (cE 75 [] (ag 118) cg (cy (ak (aD (ag 115) dD) (ag 75) (f2 item)))) (aj (aT oK (aj (ag 115) az)) az)))) (ay (bM 71 (aT uF (aj (ag 111) (aj (ag 116) (aj (ag 2) (aj (ag 3) az)))))) aJ)))) (ay (dV 13 (eH az)) (ay (dF 95 [95] (aT cF (aj (aT (a8 c8) (aj (ag 7) az)) az)) (ay (dG (dS 13 (aj (aT uY (aj (ak (aD (ag 110) dD) (ak (ag 113) (ag 95) (f2 item)) (f2 item)) (aj (ak (aD (ag 115) dD) (ak (ag 118) (ag 95) (f2 item)) (f2 item)) (aj (ag 71) az)))) az) (dd d9))) aJ)) (ay (bF (eW (bl (aT (a8 c8) (aj (ag 7) az)) (au (.int 0)) (a6 hS)) (eW (dy (ag 67)) cg)) (ay (bM 66 (aT vf (aj (aT uM (aj (ag 13) (aj (tL (ag 2) (ag 3)) az))) az))) (ay (bM 71 (cE 75 [] (ag 66) cg (cy (ak (ag 71) (ag 75) (f2 item))))) (ay (mH 13 12 [] (ag 13) cg (cy (aT j6 (aj (ag 12) (aj (ag 66) az))))) aJ))) aJ) (ay (bM 112 (aT kP (aj (ag 110) az))) (ay (bM 117 (aT kP (aj (ag 115) az))) (ay (dF 75 [75] (aT cF (aj (aT (a8 c8) (aj (ag 112) az)) az)) (ay (bF (bl (ag 75) (ag 113) (a6 ip)) (ay (dG (dS 13 (aj (aT j6 (aj (ak (aD (ag 110) dD) (ag 75) (f2 item)) (aj (cE 70 [] (ag 71) cg (cy (ak (ag 70) (au (.int 0)) (f2 item)))) az))) az) (dd d9))) aJ) aJ) aJ)) (ay (dF 75 [75] (aT cF (aj (aT (a8 c8) (aj (ag 117) az)) az)) (ay (bF (bl (ag 75) (ag 118) (a6 ip)) (ay (dG (dS 13 (aj (aT j6 (aj (ak (aD (ag 115) dD) (ag 75) (f2 item)) (aj (cE 70 [] (ag 71) cg (cy (ak (ag 70) (au (.int 1)) (f2 item)))) az))) az) (dd d9))) aJ) aJ) aJ)) (ay (bM 61 (ak (aT (a8 hp) (aj (ag 7) az)) (aT r1 (aj (ag 112) (aj (ag 117) (aj (ag 7) (aj (ak (ag 97) (au (.int 0)) (f2 item)) az))))) (f2 c7))) (ay (bM 61 (ak (ag 61) (aT r1 (aj (ag 117) (aj (ag 112) (aj (ag 7) (aj (ak (ag 97) (au (.int 1)) (f2 item)) az))))) (f2 c7))) (ay (bJ (aT u4 (aj (ag 13) (aj (ag 61) (aj (aT uZ (aj (aT (a8 c8) (aj (ag 71) az)) az)) az))))) aJ)))))))))))))
noncomputable def H5:bh:=(ay (bF (bl (ja 33 (au (.int 2))) (au (.int 0)) (a6 ck)) (ay (bF (bl (ja 33 (au (.int 1))) (aT (a8 c8) (aj (ja 33 (au (.int 0))) az)) (a6 ck)) (ay (lP 33 (au (.int 3)) (ak (ak (ja 33 (au (.int 3))) (au (.int 48271)) (f2 fU)) (au (.int 2147483647)) (f2 jE))) (ay (bJ (ak (ak (ja 33 (au (.int 3))) (au (.int 7)) (f2 sW)) (ag 49) (f2 jE))) aJ)) aJ) (ay (bM 25 (ak (ja 33 (au (.int 0))) (ja 33 (au (.int 1))) (f2 item))) (ay (lP 33 (au (.int 1)) (ak (ja 33 (au (.int 1))) (au (.int 1)) (f2 c7))) (ay (lP 33 (au (.int 2)) (dK (bl (ag 25) (au (.int 0)) (a6 oe)) (ag 25) (aD (ag 25) (f1 lU)))) aJ)))) aJ) (ay (bM 18 (ak (ja 33 (au (.int 2))) (ag 49) (f2 jE))) (ay (lP 33 (au (.int 2)) (ak (ja 33 (au (.int 2))) (ag 49) (f2 sW))) (ay (bJ (ag 18)) aJ))))
noncomputable def He(gD:kL):bh:=(ay (bM 74 (cE 0 [] (aT cF (aj (ag 53) az)) cg (cy (gG 33 gD (aj (au (.int 6)) az))))) (ay (bF (bl (ag 43) (au (.str "integer")) (a6 ck)) (ay (bJ (hC (aj (au (.str "integer")) (aj (cE 65 [] (ag 74) cg (cy (dK (bl (ag 65) (au (.int 5)) (a6 ck)) (au .none) (ak (ag 65) (au (.int 1)) (f2 gq))))) az)))) aJ) aJ) (ay (bF (bl (ag 43) (au (.str "double")) (a6 ck)) (ay (bJ (hC (aj (au (.str "double")) (aj (cE 65 [] (ag 74) cg (cy (dK (bl (ag 65) (au (.int 5)) (a6 ck)) (au .none) (dN (aj (ak (ag 65) (au (.int 1)) (f2 gq)) (aj (au (.int 1)) az)))))) az)))) aJ) aJ) (ay (bF (bl (ag 43) (au (.str "logical")) (a6 ck)) (ay (bJ (hC (aj (au (.str "logical")) (aj (cE 65 [] (ag 74) cg (cy (dK (bl (ag 65) (au (.int 5)) (a6 ck)) (au .none) (ak (ag 65) (au (.int 2)) (f2 jE))))) az)))) aJ) aJ) (ay (bF (bl (ag 43) (au (.str "character")) (a6 ck)) (ay (bJ (hC (aj (au (.str "character")) (aj (cE 65 [] (ag 74) cg (cy (dK (bl (ag 65) (au (.int 5)) (a6 ck)) (au .none) (ak (au (.str "uvwxy")) (ag 65) (f2 item))))) az)))) aJ) aJ) (ay (bM 48 (ak (eList (aj (eList (aj (au (.str "v")) (aj (au (.str "u")) (aj (au (.str "w")) az)))) (aj (eList (aj (au (.str "x")) (aj (au (.str "v")) az))) (aj (eList (aj (au (.str "u")) az)) az)))) (gG 33 gD (aj (au (.int 3)) az)) (f2 item))) (ay (dV 106 (w7 (aj (au (.str "integer")) (aj (cE 65 [] (ag 74) cg (cy (dK (bl (ag 65) (au (.int 5)) (a6 ck)) (au .none) (ak (au (.int 1)) (ak (ag 65) (aT (a8 c8) (aj (ag 48) az)) (f2 jE)) (f2 c7))))) az)))) (ay (ke 106 2 (sM ["levels","class"] (aj (hC (aj (au (.str "character")) (aj (ag 48) az))) (aj (hC (aj (au (.str "character")) (aj (eList (aj (au (.str "factor")) az)) az))) az)))) (ay (bJ (ag 106)) aJ)))))))))
noncomputable def GI:bh:=(ay (dV 17 (w7 (aj (au (.str "list")) (aj (ag 13) az)))) (ay (ke 17 2 (sM ["names","class","row.names"] (aj (hC (aj (au (.str "character")) (aj (aT (a8 hp) (aj (ag 61) az)) az))) (aj (hC (aj (au (.str "character")) (aj (eList (aj (au (.str "data.frame")) az)) az))) (aj (ag 84) az))))) (ay (jx 17) aJ)))
noncomputable def Gw:bh:=(ay (bJ (n4 (ak (aD (ag 106) gF) (au .none) (d7 (a6 kW))) (ak (au (.str "levels")) (aD (ag 106) gF) (d7 (a6 mem))))) aJ)
noncomputable def HF(ux:aU):bh:=(ay (bF (dy (aT ux (aj (ag 106) az))) (ay (bJ (cE 35 [] (aD (ag 106) dD) cg (cy (dK (bl (ag 35) (au .none) (a6 ec)) (au .none) (ak (aD (ak (aD (ag 106) gF) (au (.str "levels")) (f2 item)) dD) (ak (ag 35) (au (.int 1)) (f2 gq)) (f2 item)))))) aJ) aJ) (ay (bJ (aT (a8 hp) (aj (aD (ag 106) dD) az))) aJ))
noncomputable def HG:bh:=(ay (bJ (dK (dy (rj (ag 35) Ff)) (ak (ag 35) (au (.int 0)) (f2 item)) (ag 35))) aJ)
noncomputable def H6:bh:=(ay (bF (ew (bl (ag 65) (au .none) (a6 ec)) (ew (bl (ag 105) (au .none) (a6 ec)) h3)) (ay (bJ (n4 (ak (ag 65) (au .none) (d7 (a6 kW))) (ak (ag 105) (au .none) (d7 (a6 ec))))) aJ) aJ) (ay (bJ (ak (ag 65) (ag 105) (d7 (a6 jk)))) aJ))
noncomputable def Hf(l9:Nat->List D->List D->(D->Prop)->Prop)(uN:aU):bh:=(ay (dV 30 (eH az)) (ay (dF 82 [4,82] (ag 84) (ay (bM 4 (sL 30)) (ay (vE [] (eW (bl (ag 4) (au (.int 0)) (a6 hS)) (eW (dy (aT uN (aj (qU 42 l9 (aj (ag 82) az)) (aj (qU 42 l9 (aj (ja 30 (ak (ag 4) (au (.int 1)) (f2 gq))) az)) az)))) cg)) (ay (kh 4 (au (.int 1)) (f2 gq)) aJ)) (ay (dG (dS 30 (aj (ag 4) (aj (ag 82) az)) (dd vD))) aJ)))) (ay (jx 30) aJ)))
noncomputable def Hg(u5:aU):bh:=(ay (dF 94 [94] (aT cF (aj (aT (a8 c8) (aj (ag 65) az)) az)) (ay (bF (bl (ak (ag 65) (ag 94) (f2 item)) (ak (ag 105) (ag 94) (f2 item)) (a6 gf)) (ay (bJ (aT u5 (aj (ak (ag 65) (ag 94) (f2 item)) (aj (ak (ag 105) (ag 94) (f2 item)) az)))) aJ) aJ) aJ)) (ay (bJ (au (.bool false))) aJ))
noncomputable def D8:bG:=(cE 4 [] (aT cF (aj (ag 109) az)) cg (cy (dK (bl (ak (ak (ag 82) (au (.int 2)) (f2 item)) (ag 4) (f2 item)) (au .none) (a6 ec)) (au .none) (dK (dy (ak (ag 24) (ag 4) (f2 item))) (iF (ak (ag 48) (ag 4) (f2 item)) 0 (aj (ak (ak (ag 82) (au (.int 2)) (f2 item)) (ag 4) (f2 item)) az) (ft nQ)) (ak (ak (ag 82) (au (.int 2)) (f2 item)) (ag 4) (f2 item))))))
noncomputable def D9:bG:=(eList (aj (ak (ak (ag 82) (au (.int 2)) (f2 item)) (au (.int 0)) (f2 item)) az))
noncomputable def Ea:bG:=(eList (aj (iF (au (.str "\x0d")) 3 (aj (cE 65 [] (ak (ag 82) (au (.int 2)) (f2 item)) cg (cy (dK (bl (ag 65) (au .none) (a6 ec)) (au (.str "NA")) (aT (a8 jd) (aj (ag 65) az))))) az) (ft mL)) az))
end
section
variable {w:World} {B:bC w} {n:Nat} {g:G}
noncomputable def hu(bB:Addr)(a0 hd:Value):Obj:={cls:=.ref 263,dict:=some bB,data:=.fields #[a0,hd,.none,.none,.bool false,.none]}
noncomputable def ig:a7->a7->Prop
 | [],l=>l=[]
 | p::r,l=>∃sl kJ,l=(p.1,{p.2 with slots:=sl})::kJ/\ig r kJ
noncomputable def hM:List Env->a7->Prop
 | [],fs=>fs=[]
 | env::l,fs=>env.scope.kind≠.module/\∃L o r,fs=(L,o)::r/\env.frame=some L/\(∀ae,o.data≠.fields ae)/\hM l r
theorem ig.trans:∀{a b c:a7},ig a b->ig b c->ig a c
 | [],Z,bt,h,aC=>by subst h;exact aC
 | p::r,Z,bt,⟨sl,kJ,e,h⟩,aC=>by
  subst e
  refine dc aC fun agv agw eA gw=>?_
  exact hx agv agw eA (h.trans gw)
theorem ig.keys:∀{a b:a7},ig a b->b.map (·.1)=a.map (·.1)
 | [],Z,h=>by subst h;rfl
 | p::r,Z,⟨sl,kJ,e,h⟩=>by subst e;simp[h.keys]
theorem hM.slot:∀{l:List Env} {a b:a7},hM l a->ig a b->hM l b
 | [],Z,bt,h,aC=>by subst h;exact aC
 | env::l,Z,bt,⟨k,L,o,r,e,f,d,h⟩,aC=>by
  subst e
  refine dc aC fun sl kJ eA gw=>?_
  exact⟨k,L,_,kJ,eA,f,d,h.slot gw⟩
theorem hM.keys:∀{l:List Env} {fs:a7},hM l fs->l.filterMap (·.frame)=fs.map (·.1)
 | [],Z,h=>by subst h;rfl
 | env::l,Z,⟨k,L,o,r,e,f,d,h⟩=>by subst e;rw[List.filterMap_cons,f,h.keys];rfl
theorem hM.fun{h:Heap}:∀{l:List Env} {fs:a7},hM l fs->(∀q∈fs,h.get? q.1=some q.2)->h.FunFrames {objs:=#[]} l
 | [],Z,bt,cD=>trivial
 | env::l,Z,⟨k,L,o,r,e,f,d,aA⟩,aL=>by
  subst e
  exact⟨k,tr L o f rfl (aL _ (.head _)) d,aA.fun fun q m=>aL q (.tail _ m)⟩
theorem IX{h aC:Heap}(x:∀b o,h.get? b=some o->∃sl,aC.get? b=some {o with slots:=sl}):∀{fs:a7},(∀q∈fs,h.get? q.1=some q.2)->∃dl,ig fs dl/\∀q∈dl,aC.get? q.1=some q.2
 | [],Z=>⟨[],rfl,fun Z h=>nomatch h⟩
 | p::r,aL=>by
  refine aW (IX x (fs:=r) fun q m=>aL q (.tail _ m)) fun dl e k=>?_
  obtain⟨sl,hs⟩:=x _ _ (aL p (.head _))
  refine⟨_,hx sl dl rfl e,fun q m=>?_⟩
  cases m with
  | head=>exact hs
  | tail Z m=>exact k q m
section
variable {M:Model} {A:Around} {E:Value->Shared->Prop} {s:Shared} {env:Env} {outer:List Env} {L e bB:Addr} {a0 hd:Value} {fs R:a7}
theorem Tw{Q:Value->Shared->Prop}(eK:A.frames=some (env::outer))(aF:hM (env::outer) fs)(hf:env.frame=some L)(S:bx B g (fs++R) s.heap)(k:∀aC dl,ig fs dl->bx B g (dl++R) aC->Q (.ref L) {s with heap:=aC}):wpAny M A (frameOf env) Q E s:=by
 have aL:=fun q m=>S.own q (List.mem_append_left _ m)
 refine wpAny_frameOf_fun eK (aF.fun aL) hf fun aC hs=>?_
 replace hs:=aF.keys▸hs
 refine aW (IX hs.2.2 aL) fun dl e av=>?_
 have i3:=S.nodup
 rw[List.map_append] at i3
 refine k aC dl e ⟨S.base,fun a P dj=>?_,fun q m=>?_,fun q m=>?_,by rw[List.map_append,e.keys];exact i3⟩
 ·refine aW (S.dJ a P dj) fun o ho bc=>?_
  refine⟨o,(hs.2.1 a fun hm=>?_).trans ho,bc⟩
  refine aW (List.mem_map.mp hm) fun q g8 eA=>?_
  have:=S.apart q (List.mem_append_left _ g8)
  replace this:=dj▸eA▸this;exact sn this
 ·rcases List.mem_append.mp m with m|m
  ·exact av q m
  ·refine(hs.2.1 q.1 fun hm=>?_).trans (S.own q (List.mem_append_right _ m))
   exact(List.nodup_append.mp i3).2.2 _ hm _ (List.mem_map.mpr ⟨q,m,rfl⟩) rfl
 ·rcases List.mem_append.mp m with m|m
  ·have:q.1∈fs.map (·.1):=e.keys▸List.mem_map.mpr ⟨q,m,rfl⟩
   refine aW (List.mem_map.mp this) fun p bc eA=>?_
   exact eA▸(S.apart p (List.mem_append_left _ bc))
  ·exact S.apart q (List.mem_append_right _ m)
theorem JU{V0:Bool}{head:Value}{Q:Unit->Shared->Prop}(eK:A.frames=some (env::outer))(aF:hM (env::outer) fs)(hf:env.frame=some L)(S:bx B g (fs++((e,hu bB a0 hd)::R)) s.heap)(k:∀aC dl T gB ts,ig fs dl->gB.data=.fields ts->ts[3]?=some (rawInt L)->bx B g ((e,hu bB a0 (.ref T))::(T,gB)::(dl++R)) aC->Q () {s with heap:=aC}):
  wpAny M A (do let a <- frameOf env;let pl <- entryPlaceOf L V0;let b <- EntryCells.newEntry head a .none (rawInt L) .none pl;setField (.ref e) 1 b) Q E s:=by
 refine wpAny_bind (Tw eK aF hf S fun cn dl hW cM=>?_)
 refine wpAny_bind (wpAny_entryPlaceOf fun pl Og=>?_)
 refine wpAny_bind (wpAny_newObj_type ?_ (Og.sizeOk5 _ _ _ _ _))
 have dq:=(cM.push {cls:=.type "traceback",dict:=none,data:=.fields ([head,.ref L,.none,rawInt L,.none]++(if pl.isEmpty then List.replicate 6 Value.none else pl)).toArray}).perm (l':=(e,hu bB a0 hd)::(cn.objs.size,_)::(dl++R)) ((List.Perm.cons _ List.perm_middle).trans (List.Perm.swap _ _ _))
 have he:=dq.own _ (.head _)
 refine wpAny_setField he rfl (show (1:Nat)<6 by decide) (k _ dl cn.objs.size _ _ hW rfl ?_ (dq.update (Heap.SameBut.update ..) (Heap.get?_update_self _ he rfl)))
 first|(rfl;done)|(rcases Og with rfl|⟨_,_,_,_,_,_,_,rfl⟩ <;> simp)
noncomputable def hT(B:bC w)(g:G)(e bB:Addr)(a0 a8:Value)(l:a7)(h:Heap):Prop:=∃T gB ts,gB.data=.fields ts/\ts[3]?=some a8/\bx B g ((e,hu bB a0 (.ref T))::(T,gB)::l) h
theorem hT.perm{a8:Value}{l l':a7}{h:Heap}(F:hT B g e bB a0 a8 l h)(p:l.Perm l'):hT B g e bB a0 a8 l' h:=by
 refine hN F fun T gB ts aw ai S=>?_
 exact ji T gB ts aw ai (S.perm ((p.cons _).cons _))
theorem Tx{Q:Unit->Shared->Prop}(eK:A.frames=some (env::outer))(aF:hM (env::outer) fs)(hf:env.frame=some L)(S:bx B g (fs++((e,hu bB a0 .none)::R)) s.heap)(k:∀aC dl,ig fs dl->hT B g e bB a0 (rawInt L) (dl++R) aC->Q () {s with heap:=aC}):wpAny M A (noteFrame (.ref e) env) Q E s:=by
 unfold noteFrame
 simp only[hf]
 refine wpAny_bind (wpAny_field (x:=.none) (S.own _ (List.mem_append_right _ (.head _))) rfl rfl ?_)
 exact JU eK aF hf S fun aC dl T gB ts hW aw ai bZ=>k aC dl hW ⟨T,gB,ts,aw,ai,bZ⟩
theorem Ma{a8:Value}{l:a7}{T:Addr}{gB:Obj}{ts:Array Value}{Q:Unit->Shared->Prop}(v:Value)(aw:gB.data=.fields ts)(ai:ts[3]?=some a8)(S:bx B g ((e,hu bB a0 (.ref T))::(T,gB)::l) s.heap)(k:∀aC xg xh,xg.data=.fields xh->xh[3]?=some v->bx B g ((e,hu bB a0 (.ref T))::(T,xg)::l) aC->Q () {s with heap:=aC}):wpAny M A (setField (.ref T) 3 v) Q E s:=by
 have eX:=S.own (T,gB) (.tail _ (.head _))
 have a5:=(Array.getElem?_eq_some_iff.mp ai).1
 have hd:=Obj.data_mapFields aw (·.setIfInBounds 3 v)
 refine wpAny_setField eX aw a5 (k _ _ _ hd (by simp[a5]) (((S.perm (List.Perm.swap _ _ _)).update (Heap.SameBut.update s.heap T (Obj.mapFields (·.setIfInBounds 3 v))) (Heap.get?_update_self _ eX (Obj.isFreed_of_fields hd))).perm (List.Perm.swap _ _ _)))
theorem Jh{Q:Unit->Shared->Prop}(eK:A.frames=some (env::outer))(aF:hM (env::outer) fs)(hf:env.frame=some L)(F:hT B g e bB a0 .none (fs++R) s.heap)(k:∀aC dl,ig fs dl->hT B g e bB a0 (rawInt L) (dl++R) aC->Q () {s with heap:=aC}):wpAny M A (noteFrame (.ref e) env) Q E s:=by
 refine hN F fun T gB ts aw ai S=>?_
 unfold noteFrame
 simp only[hf]
 refine wpAny_bind (wpAny_field (x:=.ref T) (S.own _ (.head _)) rfl rfl ?_)
 skip
 refine wpAny_bind (wpAny_field (S.own (T,gB) (.tail _ (.head _))) aw ai ?_)
 skip
 refine wpAny_bind (Ma .none aw ai S fun cz xg xh rE xi cC=>?_)
 exact JU eK aF hf (cC.perm (((List.perm_middle (l₁:=fs)).trans ((List.perm_middle (l₁:=fs)).cons _)).symm)) fun aC dl hb agx agy hW aw ai bZ=>k aC dl hW ⟨hb,agx,agy,aw,ai,bZ.sub (((List.sublist_cons_self _ _).append_left dl).cons_cons _ |>.cons_cons _)⟩
theorem Ty{l:a7}{Q:Unit->Shared->Prop}(hf:env.frame=some L)(F:hT B g e bB a0 (rawInt L) l s.heap)(k:Q () s):wpAny M A (noteFrame (.ref e) env) Q E s:=by
 refine hN F fun T gB ts aw ai S=>?_
 unfold noteFrame
 simp only[hf]
 refine wpAny_bind (wpAny_field (x:=.ref T) (S.own _ (.head _)) rfl rfl ?_)
 skip
 refine wpAny_bind (wpAny_field (S.own (T,gB) (.tail _ (.head _))) aw ai ?_)
 exact(if_pos (show (rawInt L==rawInt L)=true from by exact if_pos rfl)).symm▸(wpAny_pure k)
theorem vV{a8:Value}{l:a7}{Q:Unit->Shared->Prop}{o:Option Addr}(F:hT B g e bB a0 a8 l s.heap)(k:∀aC,hT B g e bB a0 (o.elim Value.none fun f=>rawInt f) l aC->Q () {s with heap:=aC}):wpAny M A (setFlight (.ref e) o) Q E s:=by
 refine hN F fun T gB ts aw ai S=>?_
 refine wpAny_bind (wpAny_field (x:=.ref T) (S.own _ (.head _)) rfl rfl ?_)
 exact Ma _ aw ai S fun aC xg xh rE xi bZ=>k aC ⟨T,xg,xh,rE,xi,bZ⟩
theorem T8{a8:Value}{l:a7}{X:Value->Shared->Prop}(F:hT B g e bB a0 a8 l s.heap)(hf:env.frame=some L)(k:∀aC,hT B g e bB a0 (rawInt L) l aC->X (.ref e) {s with heap:=aC}):cameBackBy M A env X (.ref e) s:=by
 refine hN F fun T gB ts aw ai S=>?_
 refine wpAny_bind (wpAny_field (x:=.ref T) (S.own _ (.head _)) rfl rfl ?_)
 skip
 exact hf.symm▸(vV (o:=some L) F fun aC rz=>k aC rz)
theorem SU{l:a7}{Q:Unit->Shared->Prop}(hf:env.frame=some L)(F:hT B g e bB a0 (rawInt L) l s.heap)(k:∀aC,hT B g e bB a0 .none l aC->Q () {s with heap:=aC}):wpAny M A (leaving env (.ref e)) Q E s:=by
 exact wpAny_bind (Ty hf F (vV (o:=none) F k))
theorem Tz{Q:Unit->Shared->Prop}(eK:A.frames=some (env::outer))(aF:hM (env::outer) fs)(hf:env.frame=some L)(F:hT B g e bB a0 .none (fs++R) s.heap)(k:∀aC dl,ig fs dl->hT B g e bB a0 .none (dl++R) aC->Q () {s with heap:=aC}):wpAny M A (leaving env (.ref e)) Q E s:=by
 exact wpAny_bind (Jh eK aF hf F fun aC dl hW cI=>vV (o:=none) cI fun gw rz=>k gw dl hW rz)
end
end
section
section
variable {prog:Program} {w:World} {A:Around} {E:Value->Shared->Prop} {h:Heap} {g:Array GenState} {d:Drawn} {t:Nat} {os:OsState}
variable {nm q:Str} {C N:Addr} {bs bm zZ:List Value} {wr:Bool} {sn:List Str} {sub:List Value} {xO:Bool} {col:Option Bool} {ug:Option Addr} {ou hg i6 xP xQ:Option Value} {B newId yT:String}
structure wt(C:Addr)(B:String)(bm:List Value):Prop where
 Pb:(Value.ref C::bm).contains (.type B)=true
 aI:(Value.ref C::bm).contains (.type "AttributeError")=false
 ah9:(Value.ref C::bm).contains (.type "NameError")=false
 eP:(Value.ref C::bm).contains (.ref C)=true
theorem Rs(F:ExcBaseFacts B newId yT zZ)(aS:wt C B bm){M:Model}{rest:List Value}{Q:Unit->Shared->Prop}(eP:h.get? C=some (excClassObj nm q C N bs bm wr sn sub xO col ug ou hg i6 xP xQ newId))(aL:Q () ⟨h,g,d,t,os⟩):wpAny M A (checkBuiltinCall newId ⟨.ref C::rest,[]⟩) Q E ⟨h,g,d,t,os⟩:=by
 have aiU:=F.noStar
 simp only[checkBuiltinCall,F.newKind,F.newSplit,F.newRow]
 repeat (first|refine wpAny_loadPart_at eP ?_|(refine wpAny_isSubtype_exc eP ?_;refine aS.Pb.symm▸?_)|refine wpAny_staticBase_exc eP ?_|refine wpAny_madeBy_exc eP ?_|simp only[bne_self_eq_false,Bool.false_eq_true,if_false]|wp_step)
 exact aL
theorem SV(F:ExcBaseFacts B newId yT zZ)(aS:wt C B bm){R:Result->Shared->Prop}{rest:List Value}(eP:h.get? C=some (excClassObj nm q C N bs bm wr sn sub xO col ug ou hg i6 xP xQ newId))(aL:R (.ok (.ret (.ref (h.objs.size+1)))) ⟨(h.push {cls:=.type "tuple",data:=.seq rest.toArray}).push
   {cls:=.ref C,data:=.fields #[.ref h.objs.size,.none,.none,.none,.bool false,.none]},g,d,t,os⟩)(sJ:rest.length<=sizeLine):
  codeAny (model prog w) A (.builtin newId ⟨.ref C::rest,[]⟩) R ⟨h,g,d,t,os⟩:=by
 have aiV:=F.ends
 refine codeAny_builtinAt F.entry ?_
 refine PySem.wpAt_bind ?_
 refine PySem.wpAt_bind (PySem.wpAt_stack fun p below=>PySem.wpAt_of_wpAny ?_)
 wp_walk
 refine PySem.wpAt_of_wpAny ?_
 refine F.owner.symm▸?_
 repeat (first|with_reducible refine wpAny_madeHere_exc F.canon eP ?_|with_reducible refine wpAny_loadPart_at eP ?_|(with_reducible refine wpAny_isSubtype_exc eP ?_;first|rw[aS.Pb]|rw[aS.aI]|refine aS.ah9.symm▸?_)|wp_step)
 show R _ _
 rw[Heap.size_push]
 exact aL
theorem TA{name:Str}{v:Value}{kM:Str->Option Value}{M:Model}{Q:Option Value->Shared->Prop}(eP:h.get? C=some (excClassObj nm q C N bs bm wr sn sub xO col ug ou hg i6 xP xQ newId))(hn:h.Ns N kM)(aP:kM name=some v)(aL:Q (some v) ⟨h,g,d,t,os⟩):wpAny M A (typeLookup (.ref C) name) Q E ⟨h,g,d,t,os⟩:=by
 rw[typeLookup_eq]
 refine wpAny_bind (wpAny_mroOf_exc eP ?_)
 rw[lookupAlong_cons]
 refine wpAny_bind (wpAny_classOwn_exc eP hn ?_)
 exact aP.symm▸(wpAny_pure aL)
theorem Rt(F:ExcBaseFacts B newId yT zZ)(aS:wt C B bm){kM:Str->Option Value}{rest:List Value}{oC:Addr}{xR:Obj}{Q:Fin->Shared->Prop}(eP:h.get? C=some (excClassObj nm q C N bs bm wr sn sub xO col ug ou hg i6 xP xQ newId))(hn:h.Ns N kM)(aN:kM "__init__"=some (.ref oC))(Fo:h.get? oC=some xR)(Fp:xR.cls=.type "function")(aL:wpAny (model prog w) A (call (.ref oC) (.ref (h.objs.size+1)::rest)) (fun r bP=>r=.none/\Q (.done (.ret (.ref (h.objs.size+1)))) bP) E ⟨(h.push {cls:=.type "tuple",data:=.seq rest.toArray}).push
   {cls:=.ref C,data:=.fields #[.ref h.objs.size,.none,.none,.none,.bool false,.none]},g,d,t,os⟩)(sJ:rest.length<=sizeLine):
  wpAny (model prog w) A (Builtin.«type.__call__» ⟨.ref C::rest,[]⟩) Q E ⟨h,g,d,t,os⟩:=by
 repeat (first|with_reducible refine wpAny_loadPart_at eP ?_|with_reducible refine wpAny_madeBy_exc eP ?_|wp_step)
 refine codeAny_call_builtin_code (Code.quiet_builtin _ F.quiet) (Rs F aS eP ?_)
 refine SV F aS eP ?_ sJ
 have Oh:=Heap.get?_push_of_some {cls:=.ref C,data:=.fields #[.ref h.objs.size,.none,.none,.none,.bool false,.none]}
  (Heap.get?_push_of_some {cls:=.type "tuple",data:=.seq rest.toArray} eP)
 have aep:=Heap.get?_push_of_some {cls:=.ref C,data:=.fields #[.ref h.objs.size,.none,.none,.none,.bool false,.none]}
  (Heap.get?_push_of_some {cls:=.type "tuple",data:=.seq rest.toArray} Fo)
 have zV:((h.push {cls:=.type "tuple",data:=.seq rest.toArray}).push {cls:=.ref C,data:=.fields #[.ref h.objs.size,.none,.none,.none,.bool false,.none]}).Ns N kM:=
  let ⟨o,bw,ep,e,r⟩:=hn;tv o bw ep (Heap.get?_push_of_some _ (Heap.get?_push_of_some _ e)) r
 have aeq:((h.push {cls:=.type "tuple",data:=.seq rest.toArray}).push
   {cls:=.ref C,data:=.fields #[.ref h.objs.size,.none,.none,.none,.bool false,.none]}).get? (h.objs.size+1)=some
   {cls:=.ref C,data:=.fields #[.ref h.objs.size,.none,.none,.none,.bool false,.none]}:=by heap_get
 have agz:=aS.eP
 repeat (first|with_reducible refine wpAny_loadPart_at aeq ?_|(with_reducible refine wpAny_isSubtype_exc Oh ?_;refine agz.symm▸?_)|wp_step)
 refine TA Oh zV aN ?_
 refine wpAny_holding (wpAny_bind ?_)
 refine wpAny_bind (wpAny_typeOf (T:="function") ⟨_,aep,Fp⟩ ?_)
 skip
 refine wpAny_pure (wpAny_bind (wpAny_mono aL (fun r bP aA=>?_) fun Z Z x=>x))
 obtain⟨rfl,j2⟩:=aA
 wp_walk
 exact j2
theorem UV(F:ExcBaseFacts B newId yT zZ)(aS:wt C B bm){kM:Str->Option Value}{rest:List Value}{oC:Addr}{xR:Obj}{Q:Value->Shared->Prop}(eP:h.get? C=some (excClassObj nm q C N bs bm wr sn sub xO col ug ou hg i6 xP xQ newId))(hn:h.Ns N kM)(aN:kM "__init__"=some (.ref oC))(Fo:h.get? oC=some xR)(Fp:xR.cls=.type "function")(aL:wpAny (model prog w) (A.under (.builtin "type.__call__" ⟨.ref C::rest,[]⟩)) (call (.ref oC) (.ref (h.objs.size+1)::rest)) (fun r bP=>r=.none/\Q (.ref (h.objs.size+1)) bP) E ⟨(h.push {cls:=.type "tuple",data:=.seq rest.toArray}).push
   {cls:=.ref C,data:=.fields #[.ref h.objs.size,.none,.none,.none,.bool false,.none]},g,d,t,os⟩)(sJ:rest.length<=sizeLine):
  wpAny (model prog w) A (call (.ref C) rest) Q E ⟨h,g,d,t,os⟩:=by
 have f1:=tc_lookup
 have f2:=tc_bind (.ref C)
 have eX:(⟨h,g,d,t,os⟩:Shared).TypeIs (.ref C) "type":=⟨_,eP,rfl⟩
 refine wpAny_call (codeAny_of_tree ?_)
 show wpAny _ _ (callAny (.ref C) _) _ _ _
 repeat (any_goals (first|assumption|with_reducible refine wpAny_loadPart_at eP ?_|wp_step))
 refine⟨rfl,?_⟩
 refine codeAny_call_builtin_at (Code.quiet_builtin _ (by decide +kernel)) entry_typeCall (wpAny_check_type_call_sub eP (Rt F aS eP hn aN Fo Fp aL sJ))
end
end
section
variable {w:World} {B:bC w} {n:Nat} {g:G}
noncomputable def sZ(a0:Value):Obj:={cls:=.ref 263,data:=.fields #[a0,.none,.none,.none,.bool false,.none]}
noncomputable def lX(w:World)(u:Nat)(v:Value)(k:Nat):Obj:=PySem.W.dictOf [⟨PyData.keyHash w.params "message",.str "message" u,v⟩] k
theorem aer(P:Params):findIn (KF P) (.ref 263) "__setattr__"=some (some (.builtin "object.__setattr__")):=by kernel_rfl
theorem Mb(P:Params):findIn (KF P) (.ref 263) "message"=some none:=by kernel_rfl
theorem UW(P:Params):∃cd,clsIn (KF P) 263=some cd/\cd.mro=[.ref 263,.ref 243,.type "Exception",.type "BaseException",.type "object"]/\cd.hasDict=true:=gu _ rfl rfl rfl
theorem UX(P:Params):mroIn (KF P) 263 (.type "object")=some true:=by kernel_rfl
theorem V1{e:Addr}{a0 v:Value}:eG B n (setAttr (.ref e) "message" v) g [(e,sZ a0)] fun Z ao ms'=>g=ao/\∃bB u k,ms'=[(e,hu bB a0 .none),(bB,lX w u v k)]:=by
 intro A E s R K aI S b0
 have bU:InstAt s.heap e (sZ a0) 263 none:=⟨(S.own _ (.head _)),rfl,rfl,trivial⟩
 refine set_plain (gx S) bU (aer _) ?_
 have xS:=PySem.F.store_object
 have Pg:bx B g ([(e,sZ a0)]++R) ({s with toks:=s.toks+1}:Shared).heap:=S
 generalize hs:({s with toks:=s.toks+1}:Shared)=eC at *
 have Au:InstAt eC.heap e (sZ a0) 263 none:=by exact hs▸bU
 have Av:=gx Pg
 refine eT (UW w.params) fun cd bb agA hd=>?_
 refine codeAny_call_builtin xS.slot.plain xS.entry (@check_slot (model bD w) _ _ eC "object.__setattr__" "object" "__setattr__" (.ref e) [.str "message" s.toks,v] [] _ xS.kind xS.split (Au.type.andThen (looks_mroIn Av (UX _))) (xS.args (.ref e) (.str "message" s.toks) v) ?_)
 have hm:Looks (model bD w) eC.heap (mroOf (.ref 263)) cd.mro:=(looks_clsIn Av bb).andThen .now
 have aia:Looks (model bD w) eC.heap (Builtin.ObjectAttr.storeTaker? none) none:=.now
 rw[osa_eq,refuse_eq]
 refine wpAny_bind (wpAny_bind (Au.type.here (wpAny_bind (hm.here ?_))))
 refine agA.symm▸?_
 rw[refuseLoop_ref,refuseLoop_ref,PySem.F.store_Exception.passes]
 refine wpAny_pure (wpAny_bind (Au.type.here (wpAny_bind ((looks_findIn Av (Mb _)).here (wpAny_bind (aia.here ?_))))))
 refine wpAny_bind (wpAny_pure (wpAny_bind (wpAny_bind (wpAny_loadPart Au.at_ (wpAny_bind ((looks_clsIn Av bb).here ?_))))))
 refine hd.symm▸?_
 refine(show wpAny _ _ (alloc {cls:=.type "dict",data:=.dict #[]}>>=fun d=>(update e fun o=>{o with dict:=some d})>>=fun Z=>dictMade (.ref 263) e d) _ _ _ from ?_)
 refine wpAny_bind (wpAny_alloc ?_)
 have Oi:=(Pg.push {cls:=.type "dict",data:=.dict #[]}).perm (l':=(e,sZ a0)::(eC.heap.objs.size,{cls:=.type "dict",data:=.dict #[]})::R) (List.Perm.swap _ _ _)
 have Oj:=Oi.own _ (.head _)
 refine wpAny_bind (wpAny_update Oj ?_)
 refine wpAny_pure ?_
 have dq:=(Oi.update (Heap.SameBut.update _ e fun o=>{o with dict:=some eC.heap.objs.size}) (Heap.get?_update_self _ Oj rfl)).perm (List.Perm.swap _ _ _)
 have D:=dq.own _ (.head _)
 generalize af2:eC.heap.objs.size=bB at *
 have xL:((Heap.update (Heap.push eC.heap {cls:=.type "dict",data:=.dict #[]}) e fun o=>{o with dict:=some bB}).update bB (Obj.putName "message" (PyData.keyHash w.params "message") (.str "message" eC.toks) v)).get? bB=some (lX w eC.toks v 1):=Heap.get?_update_self _ D rfl
 refine wpAny_bind (wpAny_pure (wpAny_bind ?_))
 refine wpAny_bind (wpAny_bind (wpAny_askSetting (wpAny_pure (wpAny_bind (wpAny_mkText (wpAny_bind (wpAny_loadPart D ?_)))))))
 dsimp only
 rw[aRefKeyMayBeTheName_at]
 rw[show ((!(#[]:Array DictEntry).any fun x=>x.key.isStr (Str.ofString "message"))&&(#[]:Array DictEntry).any fun x=>x.refKey)=false from by simp,if_neg Bool.false_ne_true]
 refine wpAny_updatePart D ?_
 refine wpAny_bind (wpAny_lookBehind xL (pastItsLine_dict (by show 1<=_;skip;lia)) ?_)
 refine g4 fun aja abH=>?_
 refine wpAny_pure ?_
 have:=b0 () g _ _ (eC.toks+1) ⟨rfl,bB,eC.toks,1,rfl⟩ ((dq.update (Heap.SameBut.update _ bB (Obj.putName "message" (PyData.keyHash w.params "message") (.str "message" eC.toks) v)) xL).perm (List.Perm.swap _ _ _))
 rw[<- hs] at this ⊢
 refine abH _ _ ?_
 exact this
theorem T9:∃aH aK p3 a4,(oX 39 0).body=[.Assign [.Attribute (.Name "self" aH) "message" aK] (.Name "message" p3) a4]:=zL _ _ _ _ rfl
theorem UY{e:Addr}{a0:Value}{x:Str}{t:Nat}:E7 B (n+1) 260 [.ref e,.str x t] g [(e,sZ a0)] fun v ao ms'=>v=.none/\g=ao/\∃bB u k,ms'=[(e,hu bB a0 .none),(bB,lX w u (.str x t) k)]:=by
 intro A E s R K aI S k
 have jM:B.fc.CodeRec (.ref 259) "Refusal.__init__":=hy 259 _ _ 535 rfl (B.K 259 _ (by rfl)) rfl rfl
 have agB:BindsTo s (fdOf "__init__" "Refusal.__init__" (oX 39 0) 259 .none (.str "vectorcove.errors" 500)) ⟨[.ref e,.str x t],[]⟩ [("self",.ref e),("message",.str x t)]:=.of_eq (by kernel_rfl)
 refine codeAny_call_function (by have:=aI.2.1;show A.depth<1000;lia) (S.stays _ _ (B.K 260 _ (by rfl))) rfl (by kernel_rfl) (by kernel_rfl) rfl (jM.keeps S.stays) (agB _ _ _ _ (u1 ?_))
 have cM:=S.push {cls:=.type "frame",data:=.dict #[]}
 have l6:=Heap.Ns.new s.heap (.type "frame")
 skip
 generalize s.heap.push {cls:=.type "frame",data:=.dict #[]}=H at *
 generalize dw:newEnv (fdOf "__init__" "Refusal.__init__" (oX 39 0) 259 .none (.str "vectorcove.errors" 500)).scope s.heap.objs.size _ _ _ _ _ _ _=bv
 have m4:bv.scope.kind=.function:=by rw[<- dw];kernel_rfl
 have Ol:bv.kindOf "self"=some .local:=by rw[<- dw];kernel_rfl
 have zY:bv.kindOf "message"=some .local:=by rw[<- dw];kernel_rfl
 rw[<- (show bv.locals=s.heap.objs.size from by exact congrArg _ dw.symm)] at cM l6
 generalize s.heap.objs.size=z at *
 refine iJ (id l6) fun cm bw ep ho r=>?_
 rw[List.forIn_cons]
 refine wpAny_bind (wpAny_bind (wpAny_storeName_local Ol l6 (fun cn n₁ Fq=>wpAny_pure ?_) (by exact m4.symm▸rfl)))
 refine iJ (id n₁) fun xK agC agD Fr aib=>?_
 show wpAny _ _ (forIn _ _ _) _ _ _
 rw[List.forIn_cons]
 refine wpAny_bind (wpAny_bind (wpAny_storeName_local zY n₁ (fun cz jX agE=>wpAny_pure ?_) (by exact m4.symm▸rfl)))
 refine iJ (id jX) fun fM ajB ajC agF Ph=>?_
 have dq:=(cM.update Fq Fr).update agE agF
 skip
 refine wpAny_pure ⟨B.nolimit.keeps dq.stays,codeAny_func ?_⟩
 refine rp T9 fun aH aK p3 a4 aS=>?_
 skip
 refine wpAny_execs_cons (plainObj_wpAny_Assign_Attribute (wpAny_Name (wpAny_loadName_local m4 zY jX (v:=.str x t) (by rfl) (wpAny_Name (wpAny_loadName_local m4 Ol jX (v:=.ref e) (by simp;decide +kernel) ?_) (by decide +kernel))) (by decide +kernel)))
 refine g4 fun ajb abI=>?_
 refine V1 (n:=n) (a0:=a0) _ _ _ ((bv.locals,fM)::R) _ ?_ (dq.perm (List.Perm.swap _ _ _)) fun Z ao ms' aC t' ⟨aD,bB,u,b0,ak⟩ bZ=>?_
 ·exact aI.deeper
 ·subst aD ak
  refine abI _ _ ?_
  exact wpAny_execs_nil (k .none _ _ aC t' ⟨rfl,rfl,bB,u,b0,rfl⟩ (bZ.sub (by simp)))
theorem abJ:wt 263 "Exception" [.ref 243,.type "Exception",.type "BaseException",.type "object"]:=⟨by decide +kernel,by decide +kernel,by decide +kernel,by decide +kernel⟩
theorem X8(h:Heap)(X:(KF w.params).In h):∃kM,h.Ns 262 kM/\kM "__init__"=some (.ref 260):=by
 refine⟨_,pj _ _ _ (X 262 _ (by rfl)) rfl ?_ (fun Z=>rfl),?_⟩
 ·intro e he
  simp only[List.mem_toArray,List.mem_cons,List.not_mem_nil,or_false] at he
  rcases he with rfl|rfl|rfl|rfl|rfl <;> exact⟨_,_,rfl⟩
 ·kernel_rfl
theorem refusal{x:Str}{t:Nat}:eG B (n+2) (call (.ref 263) [.str x t]) g [] fun v ao ms'=>g=ao/\∃e bB a0 u k,v=.ref e/\ms'=[(e,hu bB a0 .none),(bB,lX w u (.str x t) k)]:=by
 intro A E s R K aI S k
 have X:=gx S
 refine aW (X8 _ X) fun kM hn aN=>?_
 obtain⟨h,Gf,d,dx,os⟩:=s
 refine UV PySem.F.excBase_Exception abJ (X 263 _ (by rfl)) hn aN (X 260 _ (by rfl)) rfl ?_ (by exact Nat.succ_pos _)
 have cC:=((bx.push (l:=R) S {cls:=.type "tuple",data:=.seq [Value.str x t].toArray}).push {cls:=.ref 263,data:=.fields #[.ref h.objs.size,.none,.none,.none,.bool false,.none]})
 rw[Heap.size_push] at cC
 refine wpAny_call (UY (n:=n) (x:=x) (t:=t) _ _ _ R _ (Kt aI) (cC.sub ((List.sublist_cons_self _ _).cons_cons _)) fun v ao ms' aC t' cv bZ=>?_)
 refine cps fun ed bR=>?_
 obtain⟨aD,ak,bB,u,b0,bz⟩:=cv
 subst aD ak bz
 refine bR ?_
 clear bR
 exact⟨rfl,k _ _ _ aC t' ⟨rfl,_,bB,_,u,b0,rfl,rfl⟩ bZ⟩
end
section
variable {w:World} {B:bC w} {n:Nat} {env:Env} {ρ:aO} {g:G} {sc:List (Str×NameKind)}
noncomputable def mX:Str:="'by' must specify a uniquely valid column"
noncomputable def v5(w:World)(dY:Obj):Prop:=∃u t k,dY=lX w u (.str mX t) k
theorem St.front{R:a7}{h:Heap}(S:St B env g ρ R h):∃o l,(∀ae,o.data≠.fields ae)/\bx B g ((env.locals,o)::(l++R)) h:=by
 refine cps fun ed bR=>?_
 refine l0 S fun m cs ae ms T bu F=>?_
 refine aW F.open fun o S c=>?_
 refine hN F.ns fun bK bw ep ho hd Z=>?_
 refine bR ?_
 clear bR
 have:=(S.own _ (.head _)).symm.trans ho
 obtain rfl:=Option.some.inj this
 exact hx o (cs++ms) (fun ae q=>(by replace q:=(show o.data=_ from hd)▸q;injection q)) (by simpa using S)
noncomputable def uj(B:bC w)(n:Nat)(env:Env){α:Type}(t:Sem α)(ρ:aO)(g:G):Prop:=∀(A:Around) (E:Value->Shared->Prop) (s:Shared) (R:a7) (K:α->Shared->Prop),dk n A->St B env g ρ R s.heap->
 (∀e bB a0 dY cm l ao aC t',v5 w dY->(∀ae,cm.data≠.fields ae)->Ext g ao->bx B ao ((e,hu bB a0 .none)::(bB,dY)::(env.locals,cm)::(l++R)) aC->E (.ref e) {s with heap:=aC,toks:=t'})->wpAny (model bD w) A t K E s
theorem SW{A:Around}{E:Value->Shared->Prop}{s:Shared}{x:Sem Value}{Q:Flow->Shared->Prop}(ib:A.handled=none)(h:wpAny (model bD w) A x (fun v eC=>∃e bB a0 ao l,v=.ref e/\bx B ao ((e,hu bB a0 .none)::l) eC.heap/\E (.ref e) eC) E s):
  wpAny (model bD w) A (raiseStmt env (some x) none) Q E s:=by
 refine wpAny_bind (wpAny_mono h (fun v eC cn=>?_) fun Z Z x=>x)
 refine NA cn fun e bB a0 ao l wk S dw=>?_
 subst wk
 have eP:=gx S 263 _ (by rfl)
 have he:=S.own _ (.head _)
 obtain⟨bc,Gf,d,dx,os⟩:=eC
 dsimp only at eP he
 unfold hu at he
 repeat (first|with_reducible refine wpAny_loadPart_at he ?_|with_reducible refine wpAny_loadPart_at eP ?_|(with_reducible refine wpAny_isSubtype_exc eP ?_;skip)|wp_step)
 exact wpAny_raiseNew_none ib dw
theorem Ua(P:Params):keepIn (KF P) (.ref 263)=true:=by kernel_rfl
theorem x_raise{np jr sY pos:Pos}{b0:Nat}(ok:cS sc env)(aE:sc.lookup ("Refusal":Str)=some .globalImplicit):uj B (n+2) env (exec (.Raise (some (.Call (.Name "Refusal" np) [.Constant (.str mX) b0 jr] [] sY)) none pos) env) ρ g:=by
 intro A E s R K aI S k
 skip
 refine wpAny_bind (wpAny_standAt ?_)
 refine SW (B:=B) aI.1 (wpAny_bind ?_)
 skip
 refine g4 fun ajc abK=>?_
 refine wpAny_bind (b9.run (.eD (b1.glob (Q:=fun v ρ' ao=>v=.ref 263/\ρ=ρ') ok B.ref aE (by rfl) ⟨rfl,rfl⟩)) aI S fun v aY bQ cn ic eI cv cM=>?_)
 obtain⟨aD,ak⟩:=cv
 subst aD ak
 refine callWith_K (h₀:=B.fc) B.K (Ua _) (b9.run (.eD ((ej q1 fm:hF B (n+2) sc [.Constant (.str mX) b0 jr] (aj (au (.str mX)) az)) env ok sY ρ bQ (fun ds ρ'=>ds=[.str mX]/\ρ=ρ') ⟨rfl,rfl⟩)) aI cM fun ae bW cH cz dz eJ l5 cC=>?_)
 refine cps fun ed bR=>?_
 obtain⟨ds,cJ,bz,b5⟩:=l5
 subst bz b5
 refine dc cC.front fun o l hd dq=>?_
 refine bR ?_
 clear bR
 refine⟨gx dq,?_⟩
 refine aW (bE.one cJ) fun v abL aP=>?_
 subst abL
 obtain⟨t,rfl⟩:=aP.str
 refine refusal (n:=n) (x:=mX) (t:=t) A E _ _ _ aI dq fun v ao ms' aC t' agG hG=>?_
 refine cps fun ed bR=>?_
 obtain⟨gA,e,bB,a0,u,b0,cK,hc⟩:=agG
 subst gA cK hc
 refine bR ?_
 clear bR
 refine abK _ _ ?_
 exact wpAny_bind (wpAny_standAt (wpAny_pure ⟨e,bB,a0,_,_,rfl,hG,k e bB a0 _ _ _ _ _ _ ⟨u,t,b0,rfl⟩ hd (eI.trans eJ) hG⟩))
open Classical in
theorem pm{a b:a7}(h:∀x,a.count x=b.count x):a.Perm b:=List.perm_iff_count.mpr h
theorem agH{a b c i:Addr×Obj}{x f R:a7}:(a::b::c::(x++i::(f++R))).Perm (c::f++a::b::(x++i::R)):=by
 refine(List.perm_middle (l₁:=[a,b]) (a:=c)).trans (.cons _ ?_)
 show List.Perm _ (f++_)
 simpa only[List.append_assoc,List.cons_append,List.nil_append] using List.perm_append_comm_assoc (a::b::(x++[i])) f R
theorem abM{test:Expr}{body orelse:List Stmt}{pos:Pos}{T:db}(ok:cS sc env)(ht:ST B n sc test T)(aL:T ρ fun b aY=>b=true/\∀g,uj B n env (execs body env) aY g):uj B n env (exec (.If test body orelse pos) env) ρ g:=by
 intro A E s R K aI S k
 refine wpAny_If (b9.run (.eD (ht env ok ρ g _ aL)) aI S fun b aY bQ cn ic eI cv cM=>?_)
 obtain⟨aD,aE⟩:=cv
 subst aD
 exact aE bQ A E _ R K aI cM fun e bB a0 dY cm l ao aC t' hm hd ex bZ=>k e bB a0 dY cm l ao aC t' hm hd (eI.trans ex) bZ
theorem KG{st:Stmt}{rest:List Stmt}(h:uj B n env (exec st env) ρ g):uj B n env (execs (st::rest) env) ρ g:=
 fun A E s R K aI S k=>wpAny_execs_cons (h A E s R _ aI S k)
noncomputable def rT(B:bC w)(n:Nat)(env:Env){α:Type}(t:Sem α)(ρ:aO)(g:G):Prop:=∀(A:Around) (E:Value->Shared->Prop) (s:Shared) (outer:List Env) (fs R:a7) (K:α->Shared->Prop),dk n A->A.frames=some (env::outer)->hM outer fs->
 env.frame=some env.locals->St B env g ρ (fs++R) s.heap->
 (∀e bB a0 dY cm l dl ao aC t',v5 w dY->ig fs dl->Ext g ao->hT B ao e bB a0 (rawInt env.locals) ((bB,dY)::(env.locals,cm)::(dl++(l++R))) aC->E (.ref e) {s with heap:=aC,toks:=t'})->wpAny (model bD w) A t K E s
theorem KH{st:Stmt}{rest:List Stmt}{W:bh}(ok:cS sc env)(h:dp B n sc st W)(aL:W ρ fun a8 aY=>a8=.cx/\∀g,rT B n env (execs rest env) aY g):rT B n env (execs (st::rest) env) ρ g:=by
 intro A E s outer fs R K aI eK aF hf S k
 refine wpAny_execs_cons (b9.run (h env ok ρ g _ aL) aI S fun f aY bQ cn ic eI cv cM=>?_)
 refine cps fun ed bR=>?_
 obtain⟨a8,gL,aD,aE⟩:=cv
 subst aD
 refine bR ?_
 clear bR
 cases f with
 | next=>exact aE bQ A E _ outer fs R K aI eK aF hf cM fun e bB a0 dY cm l dl ao aC t' hm hW ex bZ=>k e bB a0 dY cm l dl ao aC t' hm hW (eI.trans ex) bZ
 | _=>exact gL.elim
theorem V2{st:Stmt}{rest:List Stmt}(h:rT B n env (exec st env) ρ g):rT B n env (execs (st::rest) env) ρ g:=
 fun A E s outer fs R K aI eK aF hf S k=>wpAny_execs_cons (h A E s outer fs R _ aI eK aF hf S k)
noncomputable def zs(x:Nat)(dr:List Nat)(cO:bh)(X:aO->Prop):List D->aO->Prop
 | [],Z=>False
 | d::ds,ρ=>i1 ρ x=true/\(X (hr ρ x (.aX d))∨cO (hr ρ x (.aX d)) fun a8 ρ'=>match a8 with|.cx=>dO (kl dr ρ') (zs x dr cO X ds (gb dr ρ'))|.dv _=>False)
theorem X9{x:Nat}{dr:List Nat}{s:Str}{pos' pos:Pos}{iter:Expr}{body:List Stmt}{W:bG}{cO:bh}{X:aO->Prop}(ok:cS sc env)(h:bI B n sc iter W)(aS:SB B n sc body cO)(hs:nm x=s)(aE:eS sc s=true)(av:env.scope.kind≠.module)(rS:∀ρ g,X ρ->uj B n env (execs body env) ρ g)(aL:W ρ fun d aY=>∃ds,vN d=some ds/\zs x dr cO X ds aY)(hn:x<d6.length:=by decide)(hf:∀env y,foldedSetIterable iter env y=pure y:=by intro Z Z;rfl):rT B n env (exec (.For (.Name s pos') iter body [] pos) env) ρ g:=by
 subst hs
 intro A E s outer fs R K aI eK aF jl S k
 refine wpAny_For (hs:=hf env) (b9.run (.eD (h env ok ρ g _ aL)) aI S fun v aY bQ cn ic eI cv cM=>?_)
 refine cps fun ed bR=>?_
 refine aW cv fun d hd C8=>?_
 obtain⟨ds,cJ,aL⟩:=C8
 refine aW cM.lN fun l bZ back=>?_
 refine bR ?_
 clear bR
 refine yk (n:=n) cJ hd A _ _ (l++(fs++R)) _ aI bZ fun bU o eZ cz dz eB bY cC=>?_
 refine adu fun ajd abN=>?_
 refine codeAny_forLoop (fun j bP=>∃i bK ρ' ao aC t',bP={s with heap:=aC,toks:=t'}/\j=ds.length+1 - i/\i<=ds.length/\eZ i bK/\Ext bQ ao/\St B env ao ρ' ((bU,bK)::(fs++R)) aC/\zs x dr cO X (ds.drop i) ρ') ?_ (ds.length+1)
  ⟨0,o,aY,bQ,cz,dz,rfl,rfl,Nat.zero_le _,eB,.refl _,(back bQ _ _ (.refl _) (cC.perm (nK l (bU,o) _).symm)),by simpa using aL⟩
 intro j bP abO
 refine EF abO fun i bK ρ' ao aC t' abP abQ aN jJ e1 dq g8=>?_
 subst abP
 subst abQ
 refine g4 fun aje abR=>?_
 refine aW dq.lN fun pI tF v4=>?_
 by_cases fY:i<ds.length
 ·rw[List.drop_eq_getElem_cons fY] at g8
  refine bS g8 fun bb g8=>?_
  refine bY.item i bK ds[i] ao jJ (by exact List.getElem?_eq_getElem _) e1 A _ _ (pI++(fs++R)) _ aI (tF.perm (nK pI (bU,bK) _)) fun kB hB kC rL aP rd hG=>?_
  refine abR _ _ ?_
  refine wpAny_assign_Name (b9.run (.yK (Q:=fun Z bW cH=>bW=hr ρ' x (.aX ds[i])) ok aE hn aP bb rfl) aI (v4 ao ((bU,hB)::(fs++R)) kC (.refl _) (hG.perm (nK pI (bU,hB) _).symm)) fun Z ahO Ah pJ O1 w1 aic jY=>?_)
  subst aic
  rcases g8 with agI|g8
  ·refine rS _ Ah agI A _ _ ((bU,hB)::(fs++R)) _ aI jY fun e bB a0 dY cm j4 aid aE hX hm agJ agK aie=>?_
   refine Tx eK (show hM (env::outer) ((env.locals,cm)::fs) from ⟨av,env.locals,cm,fs,rfl,jl,agJ,aF⟩) jl (aie.perm agH) fun Aj ajD hW aif=>?_
   refine dc hW fun sl dl abS agL=>?_
   subst abS
   refine abN _ _ ?_
   refine T8 aif jl fun aig aih=>?_
   exact k e bB a0 dY _ (j4++[(bU,hB)]) dl aid aig hX hm agL (((eI.trans e1).trans w1).trans agK) (aih.perm (pm fun Z=>by simp only[List.count_append,List.count_cons,List.count_nil];ac_rfl))
  ·refine b9.run (aS env ok _ Ah _ g8) aI jY fun f rM nd lm nf km l5 kD=>?_
   obtain⟨a8,gL,av⟩:=l5
   cases a8 with
   | cx=>
    cases f with
    | next=>exact⟨ds.length+1 - (i+1),by (first|lia|omega),i+1,hB,_,nd,lm,nf,rfl,rfl,fY,rd,(e1.trans w1).trans km,kD.drop (eu av).1,(eu av).2⟩
    | _=>exact gL.elim
   | dv V=>exact av.elim
 ·rw[List.drop_of_length_le (by (first|exact Nat.not_lt.mp ‹_›|omega))] at g8
  exact g8.elim
end
section
variable {w:World} {B:bC w} {n:Nat} {env:Env} {ρ:aO} {g:G} {sc:List (Str×NameKind)}
noncomputable def XP(B:bC w)(n:Nat)(env:Env){α:Type}(t:Sem α)(ρ:aO)(g:G):Prop:=∀(A:Around) (E:Value->Shared->Prop) (s:Shared) (outer:List Env) (fs R:a7) (K:α->Shared->Prop),dk n A->A.frames=some (env::outer)->hM outer fs->
 env.frame=some env.locals->St B env g ρ (fs++R) s.heap->
 (∀e bB a0 dY cm l dl ao aC t',v5 w dY->(∀ae,cm.data≠.fields ae)->ig fs dl->Ext g ao->hT B ao e bB a0 .none ((bB,dY)::(env.locals,cm)::(dl++(l++R))) aC->E (.ref e) {s with heap:=aC,toks:=t'})->wpAny (model bD w) A t K E s
noncomputable def mb(B:bC w)(n:Nat)(r:bV)(hI:List D->Prop):Prop:=∀(g:G) ds vals,bE w g ds vals->hI ds->∀(A:Around) (E:Value->Shared->Prop) (s:Shared) (outer:List Env) (fs R:a7) (K:Value->Shared->Prop),dk n A->A.frames=some outer->hM outer fs->
 bx B g (fs++R) s.heap->(∀e bB a0 dY ao dl aC t',v5 w dY->ig fs dl->Ext g ao->hT B ao e bB a0 .none ((bB,dY)::(dl++R)) aC->E (.ref e) {s with heap:=aC,toks:=t'})->wpAny (model bD w) A (call (.ref r.a) vals) K E s
theorem mb.le{m:Nat}{r:bV}{hI:List D->Prop}(h:mb B m r hI)(hm:m<=n):mb B n r hI:=fun g ds vals aA bb A E s outer fs R K aI=>h g ds vals aA bb A E s outer fs R K (aI.le hm)
theorem Ub{fa c:Addr}{kp q:Str}{d:nb}{eO:Value}(m4:∃pm,B.fc.get? fa=some (jw kp q d c eO pm))(jM:B.fc.CodeRec (.ref c) q)(iN:mR d.scope=true)(kq:codeOf d.scope.names=none){ps:List (Nat×V)}{vals fA:List Value}(i9:∀(pm:Value) (s:Shared) l,bx B g l s.heap->BindsTo s (fdOf kp q d c eO pm) ⟨vals,[]⟩ ((ps.zip fA).map fun p=>(nm p.1.1,p.2)))(rA:mJ d.scope.names (ps.map (·.1))=true)(jL:∀p∈ps,p.2.eV=false)(mq:c6 w g ps fA [])(aE:∀env,cS d.scope.names env->rT B n env (execs d.body env) (bindAll [] ps) g∨XP B n env (execs d.body env) (bindAll [] ps) g){A:Around}{E:Value->Shared->Prop}{s:Shared}{outer:List Env}{fs R:a7}{K:Value->Shared->Prop}(aI:dk (n+1) A)(eK:A.frames=some outer)(aF:hM outer fs)(S:bx B g (fs++R) s.heap)(k:∀e bB a0 dY ao dl aC t',v5 w dY->ig fs dl->Ext g ao->hT B ao e bB a0 .none ((bB,dY)::(dl++R)) aC->E (.ref e) {s with heap:=aC,toks:=t'}):
  codeAny (model bD w) A (.call (.ref fa) ⟨vals,[]⟩) (fun r bP=>match r with|.ok (.ret v)=>K v bP|.ok _=>False|.error e=>E e bP) s:=by
 refine cQ m4 fun pm hf=>?_
 have lS:=iN
 unfold mR at lS
 simp only[Bool.and_eq_true,beq_iff_eq,Bool.not_eq_true',List.all_eq_true,bne_iff_ne] at lS
 refine cps fun ed bR=>?_
 obtain⟨⟨⟨s1,s2⟩,s3⟩,s4⟩:=lS
 refine bR ?_
 clear bR
 refine(codeAny_call_function (by have:=aI.2.1;show A.depth<1000;lia) (S.stays _ _ hf) rfl s2 s3 rfl (jM.keeps S.stays) (i9 pm s _ S _ _ _ _ (u1 ?_)))
 refine ph (bx.pushCells (l:=[]) (B:=B) (g:=g) d.scope.names _ [] _ (S.push {cls:=.type "frame",data:=.dict #[]})) fun cX dq fw j1 gi i4 kE i5=>?_
 rw[(Heap.size_push ..)] at fw j1 gi i4 kE i5
 have l6:(PySem.pushCells (s.heap.push {cls:=.type "frame",data:=.dict #[]}) d.scope.names).Ns s.heap.objs.size (fun Z=>none):=(Heap.Ns.new s.heap (.type "frame")).keeps (pushCells_keeps _ _)
 show wpAny _ _ _ _ _ {s with heap:=PySem.pushCells (s.heap.push {cls:=.type "frame",data:=.dict #[]}) d.scope.names}
 generalize PySem.pushCells (s.heap.push {cls:=.type "frame",data:=.dict #[]}) d.scope.names=H at *
 generalize dw:newEnv (fdOf kp q d c eO pm).scope s.heap.objs.size _ _ _ _ _ _ _=bv
 have fz:bv.cells=cellsFrom (s.heap.objs.size+1) d.scope.names []:=by exact congrArg _ dw.symm
 have qW:bv.frame=some bv.locals:=by exact dw▸rfl
 have kind:∀x,bv.kindOf x=d.scope.names.lookup x:=fun x=>by exact dw▸rfl
 have tR:bv.scope.kind≠.module:=by rw[(show bv.scope.kind=.function from by exact dw▸s1)];decide
 have ok:cS d.scope.names bv:=by
  refine⟨by refine dw▸?_;exact s1,by exact congrArg _ dw.symm,by exact congrArg _ dw.symm,fun x aE=>by rw[kind,aE],fun x aE=>by rw[kind,aE],fun x aE=>absurd rfl (s4 _ (mem_lookup aE)).2,fun x aE=>by rw[kind,aE],fun x aE=>?_,fun cV bb=>by replace bb:=kq▸bb;cases bb⟩
  rw[kind] at aE
  rcases aE with aE|aE
  ·refine dc (gi x (mem_lookup aE)) fun ca o f1 f2=>?_;exact⟨ca,by exact fz.symm▸f1⟩
  ·exact absurd rfl (s4 _ (mem_lookup aE)).2
 have nh:dP bv (fun Z=>none) cX g [] []:=by
  refine⟨fun x v aP=>(by injection aP),fun x av Z=>?_,fun x y ca aE bj=>?_,fun x v aP=>(by injection aP),fun x ca aE=>?_⟩
  ·rw[kind] at av
   refine dc (gi _ (mem_lookup av)) fun ca o f1 f2=>?_
   exact ji ca o _ (by exact fz.symm▸f1) f2 ((fw _ f2).1)
  ·rw[fz] at aE bj
   exact i5 (fun Z Z Z h=>by injection h) (fun Z Z h=>by injection h) x y ca aE bj
  ·rw[fz] at aE
   rcases j1 x ca aE with aE|⟨⟨o,ho⟩,_⟩
   ·injection aE
   ·exact .inl ⟨o,_,ho,(fw _ ho).1⟩
 have pL:cB B bv.locals (fun Z=>none) g ((cX++[])++([]++(fs++R))) H:=by
  rw[(show bv.locals=s.heap.objs.size from by exact congrArg _ dw.symm),List.append_nil]
  exact cB.close (dq.perm List.perm_middle) l6
 refine Be (n:=n) (A:=A.in1) ok (fun Z Z Z=>rfl) ps fA [] rA jL ⟨aI.1,Nat.le_trans (Nat.add_le_add_left (Nat.le_succ n) _) aI.2.1,by have:=aI.2.2;have e:=in1_units A;lia⟩ nh (fun Z Z h=>by exact ns h) ⟨rfl,rfl⟩ mq pL fun b3 d5 vs' ms' aC t' hb d1 cI=>?_
 refine⟨(B.nolimit.keeps cI.cb.stays),codeAny_func ?_⟩
 have Eb:(A.deeper bv).frames=some (bv::outer):=Around.frames_deeper eK
 rcases aE bv ok with aE|aE
 ·refine aE _ _ {s with heap:=aC,toks:=t'} outer fs R _ aI.deeper Eb aF qW ⟨b3,d5,vs',ms',hb,d1,cI⟩ fun e bB a0 dY cm l dl ao gw iM hm hW ex F=>?_
  refine SU qW F fun jp uc=>?_
  refine hN uc fun T gB ts jq fG Gg=>?_
  exact k e bB a0 dY ao dl jp iM hm hW ex ⟨T,gB,ts,jq,fG,Gg.sub ((((((List.sublist_append_right l R).append_left dl).cons _).cons_cons _).cons_cons _).cons_cons _)⟩
 ·refine aE _ _ {s with heap:=aC,toks:=t'} outer fs R _ aI.deeper Eb aF qW ⟨b3,d5,vs',ms',hb,d1,cI⟩ fun e bB a0 dY cm l dl ao gw iM hm hd hW ex F=>?_
  refine Tz Eb (show hM (bv::outer) ((bv.locals,cm)::dl) from ⟨tR,bv.locals,cm,dl,rfl,qW,hd,aF.slot hW⟩) qW (F.perm ((List.Perm.swap ..).trans (.cons _ List.perm_middle.symm))) fun jp ajE agM uc=>?_
  refine dc agM fun sl z0 aes Fs=>?_
  subst aes
  refine hN (uc.perm (l':=(bB,dY)::(bv.locals,{cm with slots:=sl})::(z0++(l++R))) ((List.Perm.cons _ List.perm_middle).trans (.swap ..))) fun T gB ts jq fG Gg=>?_
  exact k e bB a0 dY ao z0 jp iM hm (hW.trans Fs) ex ⟨T,gB,ts,jq,fG,Gg.sub ((((((List.sublist_append_right l R).append_left z0).cons _).cons_cons _).cons_cons _).cons_cons _)⟩
theorem mb.of{r:bV}{ids:List Nat}{ext:List D}{xs:List Value}{hI:List D->Prop}(eY:ci B r ids ext xs)(ei:∀ds,hI ds->ds.length+ext.length=ids.length/\∀env g,cS (bd r.i).scope.names env->rT B n env (execs (bd r.i).body env) (bindAll [] (ids.zip (gN (ds++ext)))) g∨XP B n env (execs (bd r.i).body env) (bindAll [] (ids.zip (gN (ds++ext)))) g):mb B (n+1) r hI:=by
 intro g ds vals aA bb A E s outer fs R K aI eK aF S k
 refine bS (ei ds bb) fun eE hw=>?_
 have aE:=eY.rep g
 have tM:ids.length=(gN (ds++ext)).length:=by simp[gN,eE]
 refine wpAny_call (Ub (B.fn r eY.mem) (B.cd r eY.mem) eY.sc eY.pn (vals:=vals) (fA:=vals++xs) (ps:=ids.zip (gN (ds++ext))) (fun pm bP l bZ=>by
   exact(vr ids _ _ tM)▸(eY.bind g pm bP l vals bZ (by exact aA.length.symm▸aE.length.symm▸eE))) (by exact(vB _ _ tM).symm▸eY.par) yM (.vP (aA.app aE) (by simp[eE])) (fun env ok=>hw env g ok) aI eK aF S k)
end
section
variable {w:World} {B:bC w} {n:Nat} {env:Env} {ρ:aO} {g:G} {sc:List (Str×NameKind)}
theorem V3{r:bV}{e:Expr}{rest:List Expr}{f:Str}{p pos:Pos}{hI:List D->Prop}{cj:cj}(ok:cS sc env)(tR:env.scope.kind≠.module)(aA:r∈rows)(bb:mb B n r hI)(hf:r.name=f)(bp:hF B n sc (e::rest) cj)(aE:sc.lookup f=some .globalImplicit)(hd:(f==("__debug__":Str))=false)(aL:cj ρ fun ds Z=>hI ds)(he:∀env,starEach (e::rest) env=(false,eval e env)::starEach rest env:=by intro Z;rfl):XP B n env (eval (.Call (.Name f p) (e::rest) [] pos) env) ρ g:=by
 intro A E s outer fs R K aI eK aF jl S k
 subst hf
 refine dc (si (B:=B) aA) fun o fd aw ai=>?_
 skip
 refine wpAny_bind (b9.run (.eD (b1.glob (Q:=fun v ρ' ao=>v=.ref r.a/\ρ=ρ') ok (B.nm r aA) aE hd ⟨rfl,rfl⟩)) aI S fun v aY bQ cn ic eI cv cM=>?_)
 obtain⟨aD,ak⟩:=cv
 subst aD ak
 have aS:backTo pos (starEach (e::rest) env)=(false,eval e env)::backTo pos (starEach rest env):=by rw[he];rfl
 refine callWith_function (o:=o) (fd:=fd) ?_
 rw[aS]
 refine evalArgs_plain ?_
 rw[<- aS]
 refine b9.run (.eD (bp env ok pos ρ bQ _ aL)) aI cM fun ae bW cH cz dz eJ l5 cC=>?_
 refine aW l5 fun ds cJ Ft=>?_
 refine dc cC.front fun cm l xj dq=>?_
 refine⟨⟨dq.stays _ _ aw,ai⟩,?_⟩
 refine bb cH ds ae cJ Ft A E _ (env::outer) ((env.locals,cm)::fs) (l++R) _ aI eK ⟨tR,env.locals,cm,fs,rfl,jl,xj,aF⟩ (dq.perm (.cons _ (List.perm_append_comm_assoc ..))) fun e bB a0 dY ao dl aC t' hm hW ex F=>?_
 refine dc hW fun sl agN Ec agO=>?_
 subst Ec
 exact k e bB a0 dY {cm with slots:=sl} l agN ao aC t' hm xj agO ((eI.trans eJ).trans ex) F
theorem XP.abT{α β:Type}{t:Sem α}{f:α->Sem β}(h:XP B n env t ρ g):XP B n env (t>>=f) ρ g:=
 fun A E s outer fs R K aI eK aF jl S k=>wpAny_bind (h A E s outer fs R _ aI eK aF jl S k)
theorem XP.abU{α:Type}{p:Pos}{f:Unit->Sem α}(h:XP B n env (f ()) ρ g):XP B n env (standAt p>>=f) ρ g:=
 fun A E s outer fs R K aI eK aF jl S k=>wpAny_bind (wpAny_standAt (h A E s outer fs R _ aI eK aF jl S k))
theorem Yb{s:Str}{pos' pos:Pos}{value:Expr}(h:XP B n env (eval value env) ρ g)(hw:swapsWith value (some (.Name s pos')) pos.line env=pure false:=by rfl):XP B n env (exec (.Assign [.Name s pos'] value pos) env) ρ g:=by
 rw[exec_Assign_Name env _ pos' value pos hw]
 exact .abU (.abT h)
theorem V4{st:Stmt}{rest:List Stmt}(h:XP B n env (exec st env) ρ g):XP B n env (execs (st::rest) env) ρ g:=
 fun A E s outer fs R K aI eK aF jl S k=>wpAny_execs_cons (h A E s outer fs R _ aI eK aF jl S k)
end
section
variable {w:World} {B:bC w} {n:Nat} {env:Env} {ρ:aO} {g:G} {sc:List (Str×NameKind)}
theorem agP{a b c:Addr×Obj}{l:a7}:(a::b::c::l).Perm (b::c::a::l):=(List.perm_middle (l₁:=[b,c])).symm
theorem agQ{a b c d:Addr×Obj}{l:a7}:(a::b::c::d::l).Perm (b::c::d::a::l):=(List.perm_middle (l₁:=[b,c,d])).symm
theorem agR{a b c d:Addr×Obj}{l:a7}:(a::b::c::d::l).Perm (c::a::d::b::l):=(List.perm_middle (l₁:=[a,b]) (a:=c)).trans (.cons _ (.cons _ (.swap ..)))
theorem V5(P:Params):findIn (KF P) (.ref 263) "__getattribute__"=some (some (.builtin "BaseException.__getattribute__")):=by kernel_rfl
theorem V6(P:Params):findIn (KF P) (.ref 263) "__getattr__"=some none:=by kernel_rfl
theorem Yc(P:Params):mroIn (KF P) 263 (.type "BaseException")=some true:=by kernel_rfl
theorem V7{A:Around}{E:Value->Shared->Prop}{s:Shared}{e bB:Addr}{a0 hd v:Value}{u k:Nat}{l:a7}{Q:Value->Shared->Prop}(S:bx B g ((e,hu bB a0 hd)::(bB,lX w u v k)::l) s.heap)(aP:handedOut v=pure v)(aL:∀t',Q v {s with toks:=t'}):wpAny (model bD w) A (getAttr (.ref e) "message" true) Q E s:=by
 have X:=gx S
 have aE:=S.own _ (.head _)
 have kF:=S.own (bB,lX w u v k) (.tail _ (.head _))
 obtain⟨h,Gf,d,t,os⟩:=s
 dsimp only at X aE kF
 have bU:InstAt h e (hu bB a0 hd) 263 (some (lX w u v k)):=⟨aE,rfl,rfl,kF⟩
 have dL:=PySem.F.attr_Exception.ga.bind (.ref e)
 have ajF:(true&&onTheHeap (Value.builtin "BaseException.__getattribute__"))=false:=rfl
 have agS:(Value.builtin "BaseException.__getattribute__" == Value.builtin "object.__getattribute__")=false:=by decide +kernel
 have ajG:(onTheHeap (Value.ref 263)&&Value.builtin "BaseException.__getattribute__" == Value.builtin "object.__getattribute__")=false:=by exact agS
 have bb:(hu bB a0 hd).cls=.ref 263:=rfl
 repeat (any_goals (first|assumption|(with_reducible refine wpAny_loadPart_at aE ?_;refine bb.symm▸?_)|with_reducible refine(looks_findIn (M:=model bD w) X (V5 _)).here ?_|with_reducible refine(looks_findIn (M:=model bD w) X (V6 _)).here ?_|wp_step))
 have sub:Looks (model bD w) h (isInstance (.ref e) (.type "BaseException")) true:=bU.type.andThen (looks_mroIn X (Yc _))
 have av:builtinKind "BaseException.__getattribute__"=some .slot:=by decide +kernel
 have hsplit:splitId "BaseException.__getattribute__"=some ("BaseException","__getattribute__"):=by decide +kernel
 refine codeAny_call_builtin PySem.F.attr_Exception.ga.plain PySem.F.entry_bexc_ga (@check_slot (model bD w) _ _ ⟨h,Gf,d,t+1,os⟩ "BaseException.__getattribute__" "BaseException" "__getattribute__" (.ref e) [.str "message" t] [] _ av hsplit sub (PySem.F.args_bexc_ga _ _) ?_)
 repeat (any_goals (first|assumption|(with_reducible refine wpAny_loadPart_at aE ?_;rw[bb])|with_reducible refine(looks_findIn (M:=model bD w) X (Mb _)).here ?_|wp_step))
 have eP:=X 263 _ (by rfl)
 have w9:∃m,h.Ns bB m/\m "message"=some v:=⟨_,⟨_,_,_,kF,rfl,fun e he=>by
  simp only[List.mem_toArray,List.mem_cons,List.not_mem_nil,or_false] at he
  refine he.symm▸?_
  exact⟨_,_,rfl⟩,fun Z=>rfl⟩,by first|rfl|kernel_rfl⟩
 refine g4 fun ajH aet=>?_
 refine aW w9 fun m w9 hm=>?_
 refine wpAny_load eP ?_
 refine aet _ _ ?_
 refine wpAny_pure ?_
 refine wpAny_pure ?_
 repeat (any_goals (first|assumption|(with_reducible refine wpAny_nsGet w9 ?_;refine hm.symm▸?_)|wp_step))
 exact aL _
structure yU(A:Around)(env:Env):Prop where
 fr:A.frames=some [env]
 aj9:env.frame=some env.locals
 self:env.kindOf (nm 90)=none
noncomputable def tS(B:bC w)(n:Nat)(A:Around)(env:Env)(st:Stmt)(W:bh):Prop:=∀(ρ:aO) (g:G) (Q:dM->aO->Prop),W ρ Q->∀(E:Value->Shared->Prop) (s:Shared) (R:a7) (K:Flow->Shared->Prop),dk n A->St B env g ρ R s.heap->
 (∀f ρ' ao aC t',Ext g ao->(∃a8,rt w ao ρ' a8 f/\Q a8 ρ')->St B env ao ρ' R aC->K f {s with heap:=aC,toks:=t'})->wpAny (model bD w) A (exec st env) K E s
noncomputable def pz(B:bC w)(n:Nat)(A:Around)(env:Env)(po:List Stmt)(W:bh):Prop:=∀(ρ:aO) (g:G) (Q:dM->aO->Prop),W ρ Q->∀(E:Value->Shared->Prop) (s:Shared) (R:a7) (K:Flow->Shared->Prop),dk n A->St B env g ρ R s.heap->
 (∀f ρ' ao aC t',Ext g ao->(∃a8,rt w ao ρ' a8 f/\Q a8 ρ')->St B env ao ρ' R aC->K f {s with heap:=aC,toks:=t'})->wpAny (model bD w) A (execs po env) K E s
theorem dp.tT{A:Around}{st:Stmt}{W:bh}(ok:cS sc env)(h:dp B n sc st W):tS B n A env st W:=fun ρ g Q aL E s R K aI S k=>b9.run (h env ok ρ g Q aL) aI S k
theorem SB.tT{A:Around}{po:List Stmt}{W:bh}(ok:cS sc env)(h:SB B n sc po W):pz B n A env po W:=fun ρ g Q aL E s R K aI S k=>b9.run (h env ok ρ g Q aL) aI S k
theorem gH{A:Around}{st:Stmt}{rest:List Stmt}{W U:bh}(h:tS B n A env st W)(aA:pz B n A env rest U):pz B n A env (st::rest) (ay W U):=fun ρ g Q aL E s R K aI S k=>by
 refine wpAny_execs_cons (h ρ g _ aL E s R _ aI S fun f aY bQ cn ic ex cv cM=>?_)
 obtain⟨a8,hf,av⟩:=cv
 cases a8 with
 | cx=>
  cases f with
  | next=>exact aA aY bQ _ av E _ R K aI cM fun f ρ' ao aC t' e1 z bZ=>k f ρ' ao aC t' (ex.trans e1) z bZ
  | _=>exact hf.elim
 | dv V=>
  cases f with
  | ret v=>exact k _ aY bQ cn ic ex ⟨.dv V,hf,av⟩ cM
  | next=>cases V <;> exact hf.elim
  | brk=>cases V <;> exact hf.elim
  | cont=>cases V <;> exact hf.elim
theorem abV{A:Around}{test:Expr}{body orelse:List Stmt}{pos:Pos}{T:db}{U V:bh}(ok:cS sc env)(ht:ST B n sc test T)(aS:pz B n A env body U)(he:pz B n A env orelse V):tS B n A env (.If test body orelse pos) (bF T U V):=fun ρ g Q aL E s R K aI S k=>by
 refine wpAny_If (b9.run (.eD (ht env ok ρ g _ aL)) aI S fun b aY bQ cn ic ex av cM=>?_)
 cases b with
 | true=>exact aS aY bQ _ av E _ R K aI cM fun f ρ' ao aC t' e1 z bZ=>k f ρ' ao aC t' (ex.trans e1) z bZ
 | false=>exact he aY bQ _ av E _ R K aI cM fun f ρ' ao aC t' e1 z bZ=>k f ρ' ao aC t' (ex.trans e1) z bZ
noncomputable def sN(cj:cj)(hI:List D->Prop):bh:=fun ρ k=>cj ρ fun ds aY=>hI ds/\(∀x V,bT aY x=some V->V.eV=false)/\bT aY 90=some (.mt 796 .tab)/\k (.dv (.aX (.bool true))) [(90,.mt 796 .tab)]
theorem y6{h aC:Heap}{L:Addr}{o:Obj}{m:Str->Option Value}{sl:Array (Option Value)}(n:h.Ns L m)(ho:h.get? L=some o)(hR:aC.get? L=some {o with slots:=sl}):aC.Ns L m:=by
 refine iJ n fun bK bw ep e r=>?_
 cases ho.symm.trans e
 exact tv _ bw ep hR r
theorem Yd{A:Around}{r:bV}{e:Expr}{rest:List Expr}{f:Str}{p cp ep np bc oB aH aK p3 a4 bf:Pos}{i6:Nat}{xT:Stmt}{hI:List D->Prop}{cj:cj}(ok:cS sc env)(eg:yU A env)(aA:r∈rows)(bb:mb B n r hI)(hf:r.name=f)(bp:hF B n sc (e::rest) cj)(aE:sc.lookup f=some .globalImplicit)(hd:(f==("__debug__":Str))=false)(agT:sc.lookup ("Refusal":Str)=some .globalImplicit)(agU:sc.lookup ("error":Str)=some .local)(he:∀env,starEach (e::rest) env=(false,eval e env)::starEach rest env:=by intro Z;rfl)(hs:swapsWith (.Call (.Name f p) (e::rest) [] cp) none ep.line env=pure false:=by rfl):
  tS B n A env (.Try [.Expr (.Call (.Name f p) (e::rest) [] cp) ep,xT] [.ExceptHandler (some (.Name "Refusal" np)) (some "error") [.Return (some (.Compare (.Attribute (.Name "error" aH) "message" aK) [.Eq] [.Constant (.str mX) i6 p3] a4)) bf] bc] [] [] oB) (sN cj hI):=by
 intro ρ g Q aL E s R K aI S k
 subst hf
 have tR:env.scope.kind≠.module:=by rw[ok.fn];decide
 have aN:interactive env=false:=by unfold interactive;exact ok.fn.symm▸rfl
 obtain⟨eK,jl,q3⟩:=eg
 refine dc (si (B:=B) aA) fun o fd aw ai=>?_
 skip
 refine wpAny_bind (wpAny_standAt (wpAny_tryStmt_except (wpAny_execs_cons ?_)))
 refine(exec_Expr env _ ep aN hs).symm▸?_
 refine g4 fun ajf aiW=>?_
 refine wpAny_bind (wpAny_standAt (wpAny_bind ?_))
 skip
 refine g4 fun ajg aiX=>?_
 refine wpAny_bind (b9.run (.eD (b1.glob (Q:=fun v ρ' ao=>v=.ref r.a/\ρ=ρ') ok (B.nm r aA) aE hd ⟨rfl,rfl⟩)) aI S fun v aY bQ cn ic eI ⟨aD,ak⟩ cM=>?_)
 subst aD ak
 have aS:backTo cp (starEach (e::rest) env)=(false,eval e env)::backTo cp (starEach rest env):=by rw[he];rfl
 refine callWith_function (o:=o) (fd:=fd) ?_
 rw[aS]
 refine evalArgs_plain ?_
 rw[<- aS]
 refine b9.run (.eD (bp env ok cp ρ bQ _ aL)) aI cM fun ae bW cH cz dz eJ aeu cC=>?_
 refine Nv aeu fun ds cJ Ft k7 agV av=>?_
 refine l0 cC fun m cs us ms T bu F=>?_
 refine aW F.open fun cm dq back=>?_
 have Om:=dq.own _ (.head _)
 have xj:∀ae,cm.data≠.fields ae:=by
  refine hN F.ns fun bK bw agW ho fj Z=>?_
  cases Om.symm.trans ho
  exact fun ae q=>by replace q:=(show cm.data=_ from fj)▸q;injection q
 refine⟨⟨dq.stays _ _ aw,ai⟩,?_⟩
 refine bb cH ds ae cJ Ft A _ _ [env] [(env.locals,cm)] ((cs++ms)++R) _ aI eK ⟨tR,env.locals,cm,[],rfl,jl,xj,rfl⟩ dq fun x bB a0 dY ao dl aC t' hm hW ex dM=>?_
 refine g4 fun ajh abW=>?_
 refine cps fun ed bR=>?_
 obtain⟨sl,kJ,rfl,bz⟩:=hW
 refine bR ?_
 clear bR
 subst bz
 have d3:hT B ao x bB a0 .none ([(env.locals,{cm with slots:=sl})]++((bB,dY)::((cs++ms)++R))) aC:=dM.perm (.swap ..)
 refine Jh eK (show hM [env] [(env.locals,{cm with slots:=sl})] from ⟨tR,env.locals,_,[],rfl,jl,xj,rfl⟩) jl d3 fun kC z0 Fs aii=>?_
 refine cps fun ed bR=>?_
 obtain⟨On,kJ,rfl,bz⟩:=Fs
 refine bR ?_
 clear bR
 subst bz
 refine abW _ _ ?_
 refine vV (o:=none) aii fun pJ Pj=>?_
 refine hN (id Pj) fun aka gB ts jq fG jY=>?_
 have aev:wpAny (model bD w) (A.mark (some (.ref x))) (eval (.Name "Refusal" np) env) (fun c eC=>c=.ref 263/\eC={s with heap:=pJ,toks:=t'}) (notedBy (model bD w) (A.mark (some (.ref x))) env (cameBackBy (model bD w) A env E)) {s with heap:=pJ,toks:=t'}:=
  Name_function_global ok.fn (ok.EX _ agT) (loadGlobal_global (ok.gl▸B.rq.keeps jY.stays) B.ref ⟨rfl,rfl⟩) (by rfl)
 refine wpAny_handleBy_cons (codeAny_handlers_test (wpAny_mono aev (fun c eC cn=>?_) fun Z Z x=>x)) (by intro q;injection q)
 obtain⟨rfl,rfl⟩:=cn
 refine wpAny_excMatches_sub_self (gx jY 263 _ (by rfl)) (jY.own _ (.head _)) rfl (by decide +kernel) ?_
 refine codeAny_handlers_suite_as (vV (s:={s with heap:=pJ,toks:=t'}) (o:=none) Pj fun lm aij=>?_)
 refine hN aij fun nr xk ajI dH bt kD=>?_
 have aik:lm.Ns env.locals m:=y6 F.ns Om (kD.own (env.locals,{cm with slots:=On}) (by exact .tail _ (.tail _ (.head _))))
 have Fu:=ok.loc _ agU
 have pw:(env.scope.kind==.class||(env.scope.kind==.module&&env.locals != env.globals))=false:=by exact ok.fn.symm▸rfl
 refine wpAny_storeName_local Fu aik (fun Aj Gh agX=>?_) pw
 refine cps fun ed bR=>?_
 refine iJ (id Gh) fun Pk ajJ ajK agY akb=>?_
 have Pl:bx B ao ((env.locals,Pk)::((x,hu bB a0 (.ref nr))::(bB,dY)::((nr,xk)::((cs++ms)++R)))) Aj:=bx.update (kD.perm (l':=(env.locals,{cm with slots:=On})::((x,hu bB a0 (.ref nr))::(bB,dY)::((nr,xk)::((cs++ms)++R)))) agR) agX agY
 refine tn hm fun u Gi Gj abX=>?_
 subst abX
 refine bR ?_
 clear bR
 refine wpAny_execs_cons (wpAny_Return_some (wpAny_Compare1 (Attribute_name (wpAny_Name (wpAny_loadName_local ok.fn Fu Gh (v:=.ref x) (by rfl) ?_) (by decide +kernel)))))
 refine V7 (Pl.perm (l':=(x,hu bB a0 (.ref nr))::(bB,lX w u (.str mX Gi) Gj)::((env.locals,Pk)::((nr,xk)::((cs++ms)++R)))) agP) (by rfl) fun akc=>?_
 refine wpAny_Constant_str (PyProof.Rows.eq_str ?_)
 skip
 refine wpAny_nameGoes Fu Gh pw fun Pm ail Pn agZ=>?_
 refine cps fun ed bR=>?_
 refine iJ (id Pn) fun xU ajL ajM ag0 akd=>?_
 have aim:=Pl.update agZ ag0
 refine fq (gV bu agV) fun v m₁ m₂ kz iP jm Z=>?_
 obtain⟨rfl,cW⟩:=iP
 obtain⟨_,rfl⟩:=cW
 refine bR ?_
 clear bR
 have ag1:bx B ao ((env.locals,xU)::((cs++[(796,tabObj #[])])++R)) Pm:=by
  have p:((env.locals,xU)::((x,hu bB a0 (.ref nr))::(bB,lX w u (.str mX Gi) Gj)::((nr,xk)::((cs++ms)++R)))).Perm ((x,hu bB a0 (.ref nr))::(bB,lX w u (.str mX Gi) Gj)::(nr,xk)::((env.locals,xU)::((cs++ms)++R))):=agQ
  have bZ:=(aim.perm p).sub ((((List.Sublist.refl _).cons _).cons _).cons _)
  have q:((env.locals,xU)::((cs++ms)++R)).Perm ((env.locals,xU)::((cs++([(796,tabObj #[])]++m₂))++R)):=((jm.append_left cs).append_right R).cons _
  exact(bZ.perm q).sub ((((List.sublist_append_left _ m₂).append_left cs).append_right R).cons_cons _)
 refine k (.ret (.bool true)) [(90,.mt 796 .tab)] ao Pm _ ((eI.trans eJ).trans ex) ⟨.dv (.aX (.bool true)),by rfl,av⟩ ⟨ail,cs,[.ref 796],[(796,tabObj #[])],⟨fun y v bj=>?_,fun y bj Z=>?_,T.inj,fun y v bj=>?_,fun y ca bb=>(T.jH y ca bb).imp id fun abY=>by refine cQ abY fun P dj=>?_;exact⟨P,ex _ _ dj⟩⟩,EP (.ref 796) [] [(796,tabObj #[])] [] rfl rfl ⟨rfl,rfl,rfl⟩ rfl rfl,cB.close ag1 Pn⟩
 ·unfold dX at bj
  split at bj
  ·rename_i q
   rw[q]
   unfold fR
   refine q3.symm▸?_
   trivial
  ·unfold dX at bj;cases bj
 ·refine T.own y bj fun jL=>?_
  refine aW (Option.map_eq_some_iff.mp jL) fun V fu Ed=>?_
  replace Ed:=(k7 y V fu)▸Ed;cases Ed
 ·unfold dX at bj
  split at bj
  ·rename_i q
   rw[q];decide
  ·unfold dX at bj;cases bj
end
section
theorem KI:∀r∈rows,r.a≠796/\r.c≠796:=by decide +kernel
theorem V8:∀a∈wW,a≠796:=by decide
noncomputable def abZ(o:Obj):Bool:=match o.cls with|.type s=>s=="list"|_=>false
theorem Uc(P:Params):(KF P).all (fun p=>!abZ p.2)=true:=by kernel_rfl
theorem UZ{K:Frag}{a:Addr}{o:Obj}(h:K.lookup a=some o):(a,o)∈K:=by
 induction K with
 | nil=>exact ns h
 | cons p r c9=>
  obtain⟨b,x⟩:=p
  rw[List.lookup_cons] at h
  split at h
  ·rename_i q
   obtain rfl:=Option.some.inj h
   exact(beq_iff_eq.mp q).symm▸(.head _)
  ·exact .tail _ (c9 h)
section
variable {h:Heap} {L:Addr} {ae:List Value}
theorem qK{b:Addr}{o:Obj}(e:h.get? b=some o)(oD:b≠796)(fw:b≠L):(hideAll h [796,L]).get? b=some o:=
 hideAll_get _ e (by simp only[List.mem_cons,List.not_mem_nil,or_false,not_or];exact⟨oD,fw⟩)
theorem yv{b:Addr}{o:Obj}(eg:h.get? L=some (lst ae))(e:h.get? b=some o)(hd:∀ea n,o.data≠.seq ea n):b≠L:=by
 rintro rfl
 cases eg.symm.trans e
 exact hd _ _ rfl
theorem yw{a:Addr}{m:Str->Option Value}(eg:h.get? L=some (lst ae))(n:h.Ns a m)(aw:a≠796):(hideAll h [796,L]).Ns a m:=by
 refine hN n fun o bw ep ho hd r=>?_
 exact ji o bw ep (qK ho aw (yv eg ho fun ea n q=>by replace q:=hd▸q;injection q)) hd r
theorem V9{a:Addr}{m b3:Str->Option Value}(n:h.Ns a m)(ain:h.Ns a b3):m=b3:=by
 refine fq n fun o bw ep ho hd Z hf=>?_
 refine fq ain fun bK es' agW hR fj Z ag2=>?_
 cases ho.symm.trans hR
 cases hd.symm.trans fj
 funext x
 refine(hf x)▸?_
 rw[<- ag2 x]
noncomputable def Oo{p:Program}{loose:List Str}{mean:ExcName->Option Value}{w:World}{mg nc:Str->Option Value}(eg:h.get? L=some (lst ae))(T:Top p loose mean mg nc h)(S:rc w h mg):bC w where
 fc:=hideAll h [796,L]
 mg:=mg
 nc:=nc
 rq:=yw eg T.g (by decide)
 zO:=yw eg T.b (by decide)
 nolimit:=let ⟨t6,n,e⟩:=T.nolimit;⟨t6,yw eg n (by decide),e⟩
 nodigits:=let ⟨t6,n,e⟩:=T.nodigits;⟨t6,yw eg n (by decide),e⟩
 nm:=S.nm
 fn:=fun r aA=>let ⟨pm,e⟩:=S.fn r aA;⟨pm,qK e (KI r aA).1 (yv eg e fun ea n q=>by cases q)⟩
 cd:=fun r aA=>by
  refine cps fun ed bR=>?_
  obtain⟨c,o,xs,t,aD,ak,bz,b5⟩:=S.cd r aA
  refine bR ?_
  clear bR
  cases aD
  exact⟨_,o,xs,t,rfl,qK ak (KI r aA).2 (yv eg ak fun ea n q=>by rw[bz] at q;cases q),bz,b5⟩
 vec:=S.vec
 ref:=S.ref
 len:=S.len
 K:=fun a o e=>by
  have hm:=UZ e
  refine qK (S.K a o e) (V8 a ?_) ?_
  ·rw[Kk w.params];exact List.mem_map.mpr ⟨(a,o),hm,rfl⟩
  ·rintro rfl
   have:=List.all_eq_true.mp (Uc w.params) _ hm
   cases eg.symm.trans (S.K _ o e)
   cases this
 free:=S.free
 blt:=T.builtins
 bmain:=by
  refine cps fun ed bR=>?_
  obtain⟨bm,o,aw,ai,a3,bn,bN,cw⟩:=T.bmain
  refine bR ?_
  clear bR
  have oD:bm≠796:=by
   rintro rfl
   cases S.tab.symm.trans a3
   cases bn
  have fw:bm≠mainGlobals:=by
   rintro rfl
   obtain⟨bK,bw,ep,ho,hd,_⟩:=T.g
   cases a3.symm.trans ho
   rw[cw] at hd;cases hd
  exact⟨bm,o,aw,ai,fw,oD,qK a3 oD (yv eg a3 fun ea n q=>by rw[cw] at q;cases q),bn,bN,cw⟩
end
end
theorem fC{p:Prop}[Decidable p]{A B:Prop}(h:p->A)(aC:¬p->B):jj (decide p) A B:=by
 by_cases q:p
 ·rw[decide_eq_true q];exact h q
 ·rw[decide_eq_false q];exact aC q
theorem M0{b:Bool}{A B:Prop}(e:b=true)(h:A):jj b A B:=by subst e;exact h
theorem zt{b:Bool}{A B:Prop}(e:b=false)(h:B):jj b A B:=by subst e;exact h
theorem Pp{b:Bool}{A:Prop}(e:b=true)(h:A):dO b A:=by subst e;exact h
theorem tU{k:Nat}{A:Prop}(e:k<=10000)(h:A):dO (pp k) A:=Pp (Nat.ble_eq_true_of_le e) h
theorem b6{f:D->D->Option D}{a b d:D}{k:D->Prop}(e:f a b=some d)(h:k d):f2 f a b k:=by unfold f2;rw[e];exact h
theorem il{f:D->D->Option Bool}{a b:D}{c:Bool}{k:Bool->Prop}(e:f a b=some c)(h:k c):a6 f a b k:=by unfold a6;rw[e];exact h
theorem dA{f:List D->Option D}{ds:List D}{d:D}{k:D->Prop}(e:f ds=some d)(h:k d):a8 f ds k:=by unfold a8;rw[e];exact h
theorem nW{f:D->List D->Option D}{a:D}{ds:List D}{d:D}{k:D->Prop}(e:f a ds=some d)(h:k d):ft f a ds k:=by unfold ft;rw[e];exact h
theorem DB{f:List D->List D->Option (D×List D)}{l ds l':List D}{d:D}{k:D->List D->Prop}(e:f l ds=some (d,l'))(h:k d l'):dd f l ds k:=by unfold dd;exact e.symm▸h
theorem ab0{l:List D}{d:D}{k:D->List D->Prop}(h:l.length<=10000)(av:k .none (l++[d])):dd d9 l [d] k:=DB (by exact if_pos h) av
theorem ab1{l m:List D}{k:D->List D->Prop}(h:l.length+m.length<=10000)(av:k .none (l++m)):dd sk l [.list m] k:=DB (by exact if_pos h) av
theorem q4{α:Type}{o:Option α}{d:α}{k:α->Prop}(e:o=some d)(h:k d):iL o k:=by subst e;exact h
theorem dI{ds:List D}{d:D}{k:D->Prop}(e:sx ds=some d)(h:k d):cF ds k:=by unfold cF;exact⟨dA e h⟩
theorem Pq{a:Addr}{P:Prop}(h:P):a=a/\P:=⟨rfl,h⟩
noncomputable def v6(ps:List (Nat×V)):aO->(aO->Prop)->Prop:=List.rec (motive:=fun Z=>aO->(aO->Prop)->Prop) (fun ρ k=>k ρ) (fun p Z c9 ρ k=>putK ρ p.1 p.2 fun ρ'=>c9 ρ' k) ps
theorem yx{k:aO->Prop}:∀{ps:List (Nat×V)} {ρ:aO},v6 ps ρ k->k (bindAll ρ ps)
 | [],Z,h=>h
 | p::ps,ρ,h=>yx (ps:=ps) (lM (k:=fun ρ'=>v6 ps ρ' k) h)
noncomputable def Run(ids:List Nat)(ext:List D)(W:bh):aU:=fun ds k=>dO (Nat.beq (ds.length+ext.length) ids.length) (v6 (ids.zip (gN (ds++ext))) [] fun ρ=>W ρ (sV k))
theorem bg.run{w:World}{B:bC w}{n:Nat}{r:bV}{ids:List Nat}{ext:List D}{xs:List Value}{W:bh}(eY:ci B r ids ext xs)(aS:cu B n (bd r.i).scope.names (bd r.i).body W):bg B (n+1) r (Run ids ext W):=
 .of eY aS.h fun Z k h=>⟨Nat.eq_of_beq_eq_true (eu h).1,yx (k:=fun ρ=>W ρ (sV k)) (eu h).2⟩
theorem bg.weak{w:World}{B:bC w}{n:Nat}{r:bV}{C Ai:aU}(h:bg B n r C)(i:∀ds k,Ai ds k->C ds k):bg B n r Ai:=fun g ds vals k aA bb=>h g ds vals k aA (i ds k bb)
theorem bg.wall{w:World}{B:bC w}{n:Nat}{r:bV}{C:aU}(h:bg B n r C):bg B n r (fun ds k=>At (C ds k)):=h.weak fun Z Z x=>x.h
noncomputable def Ee(ids:List Nat)(W:bh):lq:=fun ds k=>dO (Nat.beq ds.length ids.length) (v6 (ids.zip (gN (ds++[]))) [] fun ρ=>W ρ (zn k))
theorem i2.run{w:World}{B:bC w}{n:Nat}{r:bV}{ids:List Nat}{W:bh}(eY:ci B r ids [] [])(aS:cu B n (bd r.i).scope.names (bd r.i).body W):i2 B (n+1) r (fun ds k=>At (Ee ids W ds k)):=
 .of eY aS.h fun Z k h=>⟨Nat.eq_of_beq_eq_true (eu h.h).1,yx (k:=fun ρ=>W ρ (zn k)) (eu h.h).2⟩
section
variable {w:World} {B:bC w}
theorem Fv{α:Type}{l:List α}(h:l.length=1):∃a,l=[a]:=wn h
theorem ln2{α:Type}{l:List α}(h:l.length=2):∃a b,l=[a,b]:=zp h
theorem ag3{α:Type}{l:List α}(h:l.length=3):∃a b c,l=[a,b,c]:=MS h
theorem Op{α:Type}{l:List α}(h:l.length=4):∃a b c d,l=[a,b,c,d]:=MT h
theorem Oq{α:Type}{l:List α}(h:l.length=5):∃a b c d e,l=[a,b,c,d,e]:=by
 match l,h with
 | a::l,h=>refine rp (Op (l:=l) (by simpa using h)) fun b c d e l2=>?_;subst l2;exact NM a b c d e rfl
theorem ag4{α:Type}{l:List α}(h:l.length=6):∃a b c d e f,l=[a,b,c,d,e,f]:=by
 match l,h with
 | a::l,h=>refine EC (Oq (l:=l) (by simpa using h)) fun b c d e f wi=>?_;subst wi;exact NN a b c d e f rfl
theorem yy{T:Addr}{items:Array Value}(h:(KF w.params).lookup T=some {cls:=.type "tuple",data:=.seq items}):B.fc.get? T=some {cls:=.type "tuple",data:=.seq items}:=B.K T _ h
noncomputable def s6(r:bV)(ids:List Nat):Bool:=mR (bd r.i).scope&&(codeOf (bd r.i).scope.names).isNone&&mJ (bd r.i).scope.names ids
theorem xl{r:bV}{ids:List Nat}(hm:r∈rows)(bb:s6 r ids=true)(aS:∀(pm:Value) (vals:List Value),vals.length=ids.length->bindArgs (fdOf r.name r.name (bd r.i) r.c r.eO pm) ⟨vals,[]⟩=pure ((ids.map nm).zip (vals++[]))):ci B r ids [] []:=by
 refine bS (Bool.and_eq_true_iff.mp bb) fun h a3=>?_
 refine bS (Bool.and_eq_true_iff.mp h) fun aw ai=>?_
 exact⟨hm,aw,Option.isNone_iff_eq_none.mp ai,a3,fun g=>rfl,fun g pm s l vals S aF=>.of_eq (aS pm vals aF)⟩
theorem eU{r:bV}{x0:Nat}(hm:r∈rows)(bb:s6 r [x0]=true)(aS:∀pm a:Value,bindArgs (fdOf r.name r.name (bd r.i) r.c r.eO pm) ⟨[a],[]⟩=pure [(nm x0,a)]):ci B r [x0] [] []:=xl hm bb fun pm vals aF=>by
 refine cQ (Fv aF) fun a e=>?_
 subst e
 exact aS pm a
theorem f5{r:bV}{x0 ad:Nat}(hm:r∈rows)(bb:s6 r [x0,ad]=true)(aS:∀pm a b:Value,bindArgs (fdOf r.name r.name (bd r.i) r.c r.eO pm) ⟨[a,b],[]⟩=pure [(nm x0,a),(nm ad,b)]):ci B r [x0,ad] [] []:=xl hm bb fun pm vals aF=>by
 refine iY (ln2 aF) fun a b e=>?_
 subst e
 exact aS pm a b
theorem pA{r:bV}{x0 ad af:Nat}(hm:r∈rows)(bb:s6 r [x0,ad,af]=true)(aS:∀pm a b c:Value,bindArgs (fdOf r.name r.name (bd r.i) r.c r.eO pm) ⟨[a,b,c],[]⟩=pure [(nm x0,a),(nm ad,b),(nm af,c)]):ci B r [x0,ad,af] [] []:=xl hm bb fun pm vals aF=>by
 refine tn (ag3 aF) fun a b c e=>?_
 subst e
 exact aS pm a b c
theorem z1{r:bV}{x0 ad af ah:Nat}(hm:r∈rows)(bb:s6 r [x0,ad,af,ah]=true)(aS:∀pm a b c d:Value,bindArgs (fdOf r.name r.name (bd r.i) r.c r.eO pm) ⟨[a,b,c,d],[]⟩=pure [(nm x0,a),(nm ad,b),(nm af,c),(nm ah,d)]):ci B r [x0,ad,af,ah] [] []:=xl hm bb fun pm vals aF=>by
 refine rp (Op aF) fun a b c d e=>?_
 subst e
 exact aS pm a b c d
theorem Fw{r:bV}{x0 ad af ah aq:Nat}(hm:r∈rows)(bb:s6 r [x0,ad,af,ah,aq]=true)(aS:∀pm a b c d e:Value,bindArgs (fdOf r.name r.name (bd r.i) r.c r.eO pm) ⟨[a,b,c,d,e],[]⟩=pure [(nm x0,a),(nm ad,b),(nm af,c),(nm ah,d),(nm aq,e)]):ci B r [x0,ad,af,ah,aq] [] []:=xl hm bb fun pm vals aF=>by
 refine EC (Oq aF) fun a b c d e e=>?_
 subst e
 exact aS pm a b c d e
theorem PP:ci B nx [58,15] [] []:=f5 AG (by kernel_rfl) fun Z Z Z=>by kernel_rfl
theorem Sj:ci B qy [110] [] []:=eU IJ (by kernel_rfl) fun Z Z=>by kernel_rfl
theorem SX:ci B qG [110,115] [] []:=f5 I9 (by kernel_rfl) fun Z Z Z=>by kernel_rfl
theorem Ud:ci B qQ [110] [] []:=eU KD (by kernel_rfl) fun Z Z=>by kernel_rfl
theorem QM:ci B nC [58] [] []:=eU A4 (by kernel_rfl) fun Z Z=>by kernel_rfl
theorem P3:ci B ny [110] [] []:=eU AJ (by kernel_rfl) fun Z Z=>by kernel_rfl
theorem TB:ci B qL [110,21,19] [] []:=pA JQ (by kernel_rfl) fun Z Z Z Z=>by kernel_rfl
theorem Qm:ci B p4 [110,19] [] []:=f5 Hk (by kernel_rfl) fun Z Z Z=>by kernel_rfl
theorem P4:ci B pZ [101] [] []:=eU G1 (by kernel_rfl) fun Z Z=>by kernel_rfl
theorem QN:ci B qf [110,76] [] []:=f5 HM (by kernel_rfl) fun Z Z Z=>by kernel_rfl
theorem Sl:ci B qz [110,19] [] []:=f5 IK (by kernel_rfl) fun Z Z Z=>by kernel_rfl
theorem Qn:ci B p5 [114,19] [] []:=f5 Hl (by kernel_rfl) fun Z Z Z=>by kernel_rfl
theorem TC:ci B qM [110,29] [] []:=f5 JR (by kernel_rfl) fun Z Z Z=>by kernel_rfl
theorem P5:ci B p0 [114,19] [] []:=f5 G2 (by kernel_rfl) fun Z Z Z=>by kernel_rfl
theorem aiQ:ci B oI [110,19] [.int 7] [.int 7 404]:=⟨AR,by decide +kernel,by decide +kernel,by decide +kernel,fun g=>by (refine dW _ _ rfl (by first|rfl|exact⟨_,rfl⟩) ?_);rfl,fun g pm s l vals S aF=>by
 refine cQ (Fv (l:=vals) (by simpa using aF)) fun a0 ab2=>?_
 subst ab2
 exact .of_defaults rfl (S.stays _ _ (yy (by rfl))) rfl rfl rfl⟩
theorem P6:ci B oI [110,19] [] []:=⟨AR,by decide +kernel,by decide +kernel,by decide +kernel,fun g=>by rfl,fun g pm s l vals S aF=>by
 refine iY (ln2 (l:=vals) (by simpa using aF)) fun a0 a1 Dx=>?_
 subst Dx
 exact .of_defaults rfl (S.stays _ _ (yy (by rfl))) rfl rfl rfl⟩
theorem QO:ci B qg [110] [] []:=eU HN (by kernel_rfl) fun Z Z=>by kernel_rfl
theorem Sn:ci B qx [58] [] []:=eU II (by kernel_rfl) fun Z Z=>by kernel_rfl
theorem U0:ci B qV [58] [] []:=eU Lq (by kernel_rfl) fun Z Z=>by kernel_rfl
theorem SY:ci B qH [36] [] []:=eU Ja (by kernel_rfl) fun Z Z=>by kernel_rfl
theorem HH:ci B iV [36] [] []:=eU r8 (by kernel_rfl) fun Z Z=>by kernel_rfl
theorem TD:ci B nJ [106] [] []:=eU BU (by kernel_rfl) fun Z Z=>by kernel_rfl
theorem Ru:ci B nG [106] [] []:=eU Bg (by kernel_rfl) fun Z Z=>by kernel_rfl
theorem Ji:ci B mC [106] [] []:=eU Ck (by kernel_rfl) fun Z Z=>by kernel_rfl
theorem Sp:ci B j8 [106,60] [] []:=f5 vi (by kernel_rfl) fun Z Z Z=>by kernel_rfl
theorem QP:ci B qh [43,35] [] []:=f5 HO (by kernel_rfl) fun Z Z Z=>by kernel_rfl
theorem Sq:ci B qA [102,10] [] []:=f5 IL (by kernel_rfl) fun Z Z Z=>by kernel_rfl
theorem GZ:ci B iD [107] [] []:=eU r4 (by kernel_rfl) fun Z Z=>by kernel_rfl
theorem H7:ci B my [106] [] []:=eU Bn (by kernel_rfl) fun Z Z=>by kernel_rfl
theorem TE:ci B qN [106] [] []:=eU JS (by kernel_rfl) fun Z Z=>by kernel_rfl
theorem QQ:ci B nD [106] [] []:=eU A5 (by kernel_rfl) fun Z Z=>by kernel_rfl
theorem QR:ci B qi [43] [] []:=eU HP (by kernel_rfl) fun Z Z=>by kernel_rfl
theorem Qo:ci B p6 [44] [] []:=eU Hm (by kernel_rfl) fun Z Z=>by kernel_rfl
theorem Rv:ci B qs [43,35,62] [] []:=pA Ij (by kernel_rfl) fun Z Z Z Z=>by kernel_rfl
theorem SZ:ci B qI [43,35,103,62] [] []:=z1 Jb (by kernel_rfl) fun Z Z Z Z Z=>by kernel_rfl
theorem PK:ci B pR [43] [] []:=eU Gx (by kernel_rfl) fun Z Z=>by kernel_rfl
theorem QS:ci B qj [106,61] [] []:=f5 HQ (by kernel_rfl) fun Z Z Z=>by kernel_rfl
theorem S0:ci B nI [106,43,62] [] []:=pA BD (by kernel_rfl) fun Z Z Z Z=>by kernel_rfl
theorem QT:ci B qk [43,35] [] []:=f5 HR (by kernel_rfl) fun Z Z Z=>by kernel_rfl
theorem PQ:ci B pV [43,1,6] [] []:=pA GL (by kernel_rfl) fun Z Z Z Z=>by kernel_rfl
theorem PL:ci B pS [106] [] []:=eU Gy (by kernel_rfl) fun Z Z=>by kernel_rfl
theorem PN:ci B pT [106,34,37,16,59] [] []:=Fw Gz (by kernel_rfl) fun Z Z Z Z Z Z=>by kernel_rfl
theorem P7:ci B p1 [108,34,37,16,59] [] []:=Fw G3 (by kernel_rfl) fun Z Z Z Z Z Z=>by kernel_rfl
theorem QU:ci B ql [46,80,108,16,59] [] []:=Fw HS (by kernel_rfl) fun Z Z Z Z Z Z=>by kernel_rfl
theorem QV:ci B qm [76,108,16,59] [] []:=z1 HU (by kernel_rfl) fun Z Z Z Z Z=>by kernel_rfl
theorem Sr:ci B qB [16,14] [] []:=f5 IM (by kernel_rfl) fun Z Z Z=>by kernel_rfl
theorem Qp:ci B p7 [108,59] [] []:=f5 Hn (by kernel_rfl) fun Z Z Z=>by kernel_rfl
theorem Ss:ci B qC [108,16,59] [.bool false,.bool true] [.bool false,.bool true]:=⟨IO,by decide +kernel,by decide +kernel,by decide +kernel,fun g=>by (refine dW _ _ rfl (by first|rfl|exact⟨_,rfl⟩) ?_);(refine dW _ _ rfl (by first|rfl|exact⟨_,rfl⟩) ?_);rfl,fun g pm s l vals S aF=>by
 refine cQ (Fv (l:=vals) (by simpa using aF)) fun a0 Dl=>?_
 subst Dl
 exact .of_defaults rfl (S.stays _ _ (yy (by rfl))) rfl rfl rfl⟩
theorem Rw:ci B j7 [106] [] []:=eU u7 (by kernel_rfl) fun Z Z=>by kernel_rfl
theorem Rx:ci B qt [13,61,83] [] []:=pA Ik (by kernel_rfl) fun Z Z Z Z=>by kernel_rfl
theorem QW:ci B qn [14] [] []:=eU HV (by kernel_rfl) fun Z Z=>by kernel_rfl
theorem QX:ci B qo [17] [] []:=eU HW (by kernel_rfl) fun Z Z=>by kernel_rfl
theorem P8:ci B nz [17] [] []:=eU x5 (by kernel_rfl) fun Z Z=>by kernel_rfl
theorem Hh:ci B kQ [12] [] []:=eU x8 (by kernel_rfl) fun Z Z=>by kernel_rfl
theorem S1:ci B qJ [43] [] []:=eU Jc (by kernel_rfl) fun Z Z=>by kernel_rfl
theorem QY:ci B nE [12,76] [] []:=f5 A6 (by kernel_rfl) fun Z Z Z=>by kernel_rfl
theorem PR:ci B pW [73] [] []:=eU GM (by kernel_rfl) fun Z Z=>by kernel_rfl
theorem PS:ci B pX [73] [] []:=eU GN (by kernel_rfl) fun Z Z=>by kernel_rfl
theorem Qq:ci B p8 [12] [] []:=eU Ho (by kernel_rfl) fun Z Z=>by kernel_rfl
theorem Su:ci B qD [13,84] [] []:=f5 IP (by kernel_rfl) fun Z Z Z=>by kernel_rfl
theorem H8:ci B oP [17,7] [] []:=f5 Bo (by kernel_rfl) fun Z Z Z=>by kernel_rfl
theorem PT:ci B pY [111,116] [] []:=f5 GO (by kernel_rfl) fun Z Z Z=>by kernel_rfl
theorem Qr:ci B p9 [42,69] [] []:=f5 Hp (by kernel_rfl) fun Z Z Z=>by kernel_rfl
theorem Ry:ci B qu [26,89] [] []:=f5 Il (by kernel_rfl) fun Z Z Z=>by kernel_rfl
theorem P9:ci B p2 [111,116,2,3] [] []:=z1 G4 (by kernel_rfl) fun Z Z Z Z Z=>by kernel_rfl
theorem QZ:ci B qp [110,115,71] [] []:=pA HX (by kernel_rfl) fun Z Z Z Z=>by kernel_rfl
theorem Qs:ci B qa [61,69,7,96] [] []:=z1 Hq (by kernel_rfl) fun Z Z Z Z Z=>by kernel_rfl
theorem Sv:ci B qE [12] [] []:=eU IQ (by kernel_rfl) fun Z Z=>by kernel_rfl
theorem Qt:ci B qb [13,8] [] []:=f5 Hr (by kernel_rfl) fun Z Z Z=>by kernel_rfl
theorem GJ:ci B ly [110,115,7,2,3,97,67] [.bool true] [.bool true]:=⟨AK,by decide +kernel,by decide +kernel,by decide +kernel,fun g=>by (refine dW _ _ rfl (by first|rfl|exact⟨_,rfl⟩) ?_);rfl,fun g pm s l vals S aF=>by
 refine NB (ag4 (l:=vals) (by simpa using aF)) fun a0 a1 a2 jT pE ahJ ab3=>?_
 subst ab3
 exact .of_defaults rfl (S.stays _ _ (yy (by rfl))) rfl rfl rfl⟩
theorem Rz:ci B lD [33,49] [] []:=f5 ya (by kernel_rfl) fun Z Z Z=>by kernel_rfl
theorem Qu:ci B oJ [33,43,53] [] []:=pA Hs (by kernel_rfl) fun Z Z Z Z=>by kernel_rfl
theorem PU:ci B oH [13,61,84] [] []:=pA GP (by kernel_rfl) fun Z Z Z Z=>by kernel_rfl
theorem PO:ci B pU [106] [] []:=eU GA (by kernel_rfl) fun Z Z=>by kernel_rfl
theorem Q0:ci B oL [106] [] []:=eU HY (by kernel_rfl) fun Z Z=>by kernel_rfl
theorem Q1:ci B oM [35] [] []:=eU HZ (by kernel_rfl) fun Z Z=>by kernel_rfl
theorem RA:ci B qv [65,105] [] []:=f5 Im (by kernel_rfl) fun Z Z Z=>by kernel_rfl
theorem Qv:ci B nB [84,42] [] []:=f5 uP (by kernel_rfl) fun Z Z Z=>by kernel_rfl
theorem Qw:ci B qc [65,105] [] []:=f5 Ht (by kernel_rfl) fun Z Z Z=>by kernel_rfl
end
section
variable {w:World} {B:bC w} {n:Nat}
noncomputable abbrev Sc:=List (Str×NameKind)
noncomputable abbrev no{α:Type}:aO->α->Prop:=fun Z Z=>False
noncomputable abbrev dt{β:Type}(b:Bool)(x d:β):β:=match b with|true=>x|false=>d
theorem dE{β:Type}{P:β->Prop}{b:Bool}{x d:β}(aw:b=true->P x)(ai:P d):P (dt b x d):=by cases b;exact ai;exact aw rfl
noncomputable abbrev on{α β:Type}(o:Option α)(f:α->β)(d:β):β:=match o with|some a=>f a|none=>d
theorem hK{α β:Type}{P:β->Prop}{o:Option α}{f:α->β}{d:β}(aw:∀a,o=some a->P (f a))(ai:P d):P (on o f d):=by cases o;exact ai;exact aw _ rfl
noncomputable abbrev jP{α β:Type}(l:List α)(f:α->List α->β)(d:β):β:=match l with|[]=>d|a::r=>f a r
theorem kU{α β:Type}{P:β->Prop}{l:List α}{f:α->List α->β}{d:β}(aw:∀a r,l=a::r->P (f a r))(ai:P d):P (jP l f d):=by cases l;exact ai;exact aw _ _ rfl
noncomputable abbrev kv{α β:Type}(l:List α)(x d:β):β:=match l with|[]=>x|_::_=>d
theorem lJ{α β:Type}{P:β->Prop}{l:List α}{x d:β}(aw:l=[]->P x)(ai:P d):P (kv l x d):=by cases l;exact aw rfl;exact ai
noncomputable abbrev jF{α β:Type}(l:List α)(f:α->β)(d:β):β:=jP l (fun a r=>kv r (f a) d) d
theorem kS{α β:Type}{P:β->Prop}{l:List α}{f:α->β}{d:β}(aw:∀a,l=[a]->P (f a))(ai:P d):P (jF l f d):=kU (fun a r e=>lJ (fun eA=>aw a (eA▸e)) ai) ai
theorem jv{β:Type}{P:β->Prop}{e:Expr}{d:β}{bo:BoolOp->List Expr->β}{bi:Expr->Operator->Expr->β}{un:UnaryOp->Expr->β}{la:Arguments->Expr->Scope->β}{mh:Expr->Expr->Expr->β}{lg:List (Option Expr)->List Expr->β}{lc:Expr->List Comprehension->Scope->Pos->β}{cp:Expr->List CmpOp->List Expr->β}{ca:Expr->List Expr->List Keyword->Pos->β}{fv:Expr->Int->Option Expr->β}{js:List Expr->β}{co:Const->β}{lh:Expr->Str->Pos->β}{mi:Expr->Expr->β}{nn:Str->Pos->β}{li:List Expr->β}{mj:List Expr->β}(ai:P d)(ag5:∀o v p,e=.BoolOp o v p->P (bo o v))(ag6:∀a o b p,e=.BinOp a o b p->P (bi a o b))(ag7:∀o a p,e=.UnaryOp o a p->P (un o a))(ag8:∀a b s p,e=.Lambda a b s p->P (la a b s))(ag9:∀a b c p,e=.IfExp a b c p->P (mh a b c))(aha:∀k v p,e=.Dict k v p->P (lg k v))(ahb:∀x g s p,e=.ListComp x g s p->P (lc x g s p))(ahc:∀l o r p,e=.Compare l o r p->P (cp l o r))(iw:∀f a k p,e=.Call f a k p->P (ca f a k p))(ahd:∀v c s p,e=.FormattedValue v c s p->P (fv v c s))(ahe:∀v p,e=.JoinedStr v p->P (js v))(kq:∀c k p,e=.Constant c k p->P (co c))(ahf:∀v a p,e=.Attribute v a p->P (lh v a p))(ahg:∀v s p,e=.Subscript v s p->P (mi v s))(Fc:∀s p,e=.Name s p->P (nn s p))(ahh:∀l p,e=.List l p->P (li l))(ahi:∀l k p,e=.Tuple l k p->P (mj l)):P (ha e d bo bi un la mh lg lc cp ca fv js co lh mi nn li mj):=
 Expr.casesOn (motive_1:=fun x=>e=x->P (ha x d bo bi un la mh lg lc cp ca fv js co lh mi nn li mj)) e ag5 (fun Z Z Z Z=>ai) ag6 ag7 ag8 ag9 aha (fun Z Z Z Z=>ai) ahb (fun Z Z Z Z Z=>ai) (fun Z Z Z Z Z Z=>ai) (fun Z Z Z Z Z=>ai) (fun Z Z Z=>ai) (fun Z Z Z=>ai) (fun Z Z Z=>ai) ahc iw ahd ahe kq ahf ahg (fun Z Z Z=>ai) Fc ahh ahi (fun Z Z Z Z Z=>ai) rfl
noncomputable abbrev gn{β:Type}(e:Expr)(f:Str->β)(d:β):β:=ha e d (nn:=fun s Z=>f s)
theorem hj{β:Type}{P:β->Prop}{e:Expr}{f:Str->β}{d:β}(aw:∀s p,e=.Name s p->P (f s))(ai:P d):P (gn e f d):=jv ai (fun Z Z Z Z=>ai) (fun Z Z Z Z Z=>ai) (fun Z Z Z Z=>ai) (fun Z Z Z Z Z=>ai) (fun Z Z Z Z Z=>ai) (fun Z Z Z Z=>ai) (fun Z Z Z Z Z=>ai) (fun Z Z Z Z Z=>ai) (fun Z Z Z Z Z=>ai) (fun Z Z Z Z Z=>ai) (fun Z Z Z=>ai) (fun Z Z Z Z=>ai) (fun Z Z Z Z=>ai) (fun Z Z Z Z=>ai) aw (fun Z Z Z=>ai) (fun Z Z Z Z=>ai)
noncomputable abbrev Lr{β:Type}(e:Expr)(f:Expr->List Expr->List Keyword->Pos->β)(d:β):β:=ha e d (ca:=f)
theorem TF{β:Type}{P:β->Prop}{e:Expr}{f:Expr->List Expr->List Keyword->Pos->β}{d:β}(aw:∀g a k p,e=.Call g a k p->P (f g a k p))(ai:P d):P (Lr e f d):=jv ai (fun Z Z Z Z=>ai) (fun Z Z Z Z Z=>ai) (fun Z Z Z Z=>ai) (fun Z Z Z Z Z=>ai) (fun Z Z Z Z Z=>ai) (fun Z Z Z Z=>ai) (fun Z Z Z Z Z=>ai) (fun Z Z Z Z Z=>ai) aw (fun Z Z Z Z Z=>ai) (fun Z Z Z=>ai) (fun Z Z Z Z=>ai) (fun Z Z Z Z=>ai) (fun Z Z Z Z=>ai) (fun Z Z Z=>ai) (fun Z Z Z=>ai) (fun Z Z Z Z=>ai)
noncomputable abbrev CJ{β:Type}(e:Expr)(f:Expr->Str->Pos->β)(d:β):β:=ha e d (lh:=f)
theorem IY{β:Type}{P:β->Prop}{e:Expr}{f:Expr->Str->Pos->β}{d:β}(aw:∀v a p,e=.Attribute v a p->P (f v a p))(ai:P d):P (CJ e f d):=jv ai (fun Z Z Z Z=>ai) (fun Z Z Z Z Z=>ai) (fun Z Z Z Z=>ai) (fun Z Z Z Z Z=>ai) (fun Z Z Z Z Z=>ai) (fun Z Z Z Z=>ai) (fun Z Z Z Z Z=>ai) (fun Z Z Z Z Z=>ai) (fun Z Z Z Z Z=>ai) (fun Z Z Z Z Z=>ai) (fun Z Z Z=>ai) (fun Z Z Z Z=>ai) aw (fun Z Z Z Z=>ai) (fun Z Z Z=>ai) (fun Z Z Z=>ai) (fun Z Z Z Z=>ai)
noncomputable abbrev Md{β:Type}(e:Expr)(f:Expr->Expr->β)(d:β):β:=ha e d (mi:=f)
theorem Ue{β:Type}{P:β->Prop}{e:Expr}{f:Expr->Expr->β}{d:β}(aw:∀v s p,e=.Subscript v s p->P (f v s))(ai:P d):P (Md e f d):=jv ai (fun Z Z Z Z=>ai) (fun Z Z Z Z Z=>ai) (fun Z Z Z Z=>ai) (fun Z Z Z Z Z=>ai) (fun Z Z Z Z Z=>ai) (fun Z Z Z Z=>ai) (fun Z Z Z Z Z=>ai) (fun Z Z Z Z Z=>ai) (fun Z Z Z Z Z=>ai) (fun Z Z Z Z Z=>ai) (fun Z Z Z=>ai) (fun Z Z Z Z=>ai) (fun Z Z Z Z=>ai) aw (fun Z Z Z=>ai) (fun Z Z Z=>ai) (fun Z Z Z Z=>ai)
noncomputable abbrev sB{β:Type}(e:Expr)(f:List Expr->β)(d:β):β:=ha e d (li:=f)
theorem vn{β:Type}{P:β->Prop}{e:Expr}{f:List Expr->β}{d:β}(aw:∀l p,e=.List l p->P (f l))(ai:P d):P (sB e f d):=jv ai (fun Z Z Z Z=>ai) (fun Z Z Z Z Z=>ai) (fun Z Z Z Z=>ai) (fun Z Z Z Z Z=>ai) (fun Z Z Z Z Z=>ai) (fun Z Z Z Z=>ai) (fun Z Z Z Z Z=>ai) (fun Z Z Z Z Z=>ai) (fun Z Z Z Z Z=>ai) (fun Z Z Z Z Z=>ai) (fun Z Z Z=>ai) (fun Z Z Z Z=>ai) (fun Z Z Z Z=>ai) (fun Z Z Z Z=>ai) (fun Z Z Z=>ai) aw (fun Z Z Z Z=>ai)
noncomputable abbrev Mf{β:Type}(e:Expr)(f:List Expr->β)(d:β):β:=ha e d (mj:=f)
theorem Uf{β:Type}{P:β->Prop}{e:Expr}{f:List Expr->β}{d:β}(aw:∀l k p,e=.Tuple l k p->P (f l))(ai:P d):P (Mf e f d):=jv ai (fun Z Z Z Z=>ai) (fun Z Z Z Z Z=>ai) (fun Z Z Z Z=>ai) (fun Z Z Z Z Z=>ai) (fun Z Z Z Z Z=>ai) (fun Z Z Z Z=>ai) (fun Z Z Z Z Z=>ai) (fun Z Z Z Z Z=>ai) (fun Z Z Z Z Z=>ai) (fun Z Z Z Z Z=>ai) (fun Z Z Z=>ai) (fun Z Z Z Z=>ai) (fun Z Z Z Z=>ai) (fun Z Z Z Z=>ai) (fun Z Z Z=>ai) (fun Z Z Z=>ai) aw
noncomputable abbrev Ef{β:Type}(e:Expr)(f:Expr->List Comprehension->Scope->Pos->β)(d:β):β:=ha e d (lc:=f)
theorem JV{β:Type}{P:β->Prop}{e:Expr}{f:Expr->List Comprehension->Scope->Pos->β}{d:β}(aw:∀x g s p,e=.ListComp x g s p->P (f x g s p))(ai:P d):P (Ef e f d):=jv ai (fun Z Z Z Z=>ai) (fun Z Z Z Z Z=>ai) (fun Z Z Z Z=>ai) (fun Z Z Z Z Z=>ai) (fun Z Z Z Z Z=>ai) (fun Z Z Z Z=>ai) aw (fun Z Z Z Z Z=>ai) (fun Z Z Z Z Z=>ai) (fun Z Z Z Z Z=>ai) (fun Z Z Z=>ai) (fun Z Z Z Z=>ai) (fun Z Z Z Z=>ai) (fun Z Z Z Z=>ai) (fun Z Z Z=>ai) (fun Z Z Z=>ai) (fun Z Z Z Z=>ai)
noncomputable abbrev onStr{β:Type}(e:Expr)(f:Str->β)(d:β):β:=ha e d (co:=fun c=>match c with|.str s=>f s|_=>d)
theorem Jj{β:Type}{P:β->Prop}{e:Expr}{f:Str->β}{d:β}(aw:∀s k p,e=.Constant (.str s) k p->P (f s))(ai:P d):P (onStr e f d):=jv ai (fun Z Z Z Z=>ai) (fun Z Z Z Z Z=>ai) (fun Z Z Z Z=>ai) (fun Z Z Z Z Z=>ai) (fun Z Z Z Z Z=>ai) (fun Z Z Z Z=>ai) (fun Z Z Z Z Z=>ai) (fun Z Z Z Z Z=>ai) (fun Z Z Z Z Z=>ai) (fun Z Z Z Z Z=>ai) (fun Z Z Z=>ai) (fun c k p e=>by cases c <;> first|exact aw _ _ _ e|exact ai) (fun Z Z Z Z=>ai) (fun Z Z Z Z=>ai) (fun Z Z Z=>ai) (fun Z Z Z=>ai) (fun Z Z Z Z=>ai)
noncomputable abbrev Eg{β:Type}(e:Expr)(f:Expr->β)(d:β):β:=ha e d (fv:=fun v c s=>on s (fun Z=>d) (dt (c==-1) (f v) d))
theorem JW{β:Type}{P:β->Prop}{e:Expr}{f:Expr->β}{d:β}(aw:∀v p,e=.FormattedValue v (-1) none p->P (f v))(ai:P d):P (Eg e f d):=jv ai (fun Z Z Z Z=>ai) (fun Z Z Z Z Z=>ai) (fun Z Z Z Z=>ai) (fun Z Z Z Z Z=>ai) (fun Z Z Z Z Z=>ai) (fun Z Z Z Z=>ai) (fun Z Z Z Z Z=>ai) (fun Z Z Z Z Z=>ai) (fun Z Z Z Z Z=>ai) (fun v c s p e=>by cases s;exact dE (fun h=>aw v p (by rw[e,beq_iff_eq.mp h])) ai;exact ai) (fun Z Z Z=>ai) (fun Z Z Z Z=>ai) (fun Z Z Z Z=>ai) (fun Z Z Z Z=>ai) (fun Z Z Z=>ai) (fun Z Z Z=>ai) (fun Z Z Z Z=>ai)
structure zu(e:Expr):Prop where
 st:∀r env,starEach (e::r) env=(false,eval e env)::starEach r env
 sub:∀o i,subscripted e false o i=operate [o,i] (getItem o i)
 Os:∀a env,attributeBase e a env (eval e env)=eval e env
 fld:∀env y,foldedSetIterable e env y=pure y
 Ot:∀o,behindInMarks o e=false
noncomputable def nice(e:Expr):Bool:=ha e false (bo:=fun Z Z=>true) (bi:=fun Z Z Z=>true) (un:=fun Z Z=>true) (mh:=fun Z Z Z=>true) (lg:=fun Z Z=>true) (lc:=fun Z Z Z Z=>true) (cp:=fun Z Z Z=>true) (js:=fun Z=>true) (co:=fun Z=>true) (lh:=fun Z Z Z=>true) (mi:=fun Z Z=>true) (nn:=fun Z Z=>true) (li:=fun Z=>true) (mj:=fun Z=>true)
 (ca:=fun f a Z Z=>ha f false (nn:=fun Z Z=>jP a (fun Z Z=>true) false) (lh:=fun Z Z Z=>true))
theorem gW{e:Expr}:nice e=true->zu e:=jv (P:=fun b=>b=true->zu e) (fun h=>nomatch h) (fun Z Z Z q Z=>q▸⟨fun Z Z=>rfl,fun Z Z=>rfl,fun Z Z=>rfl,fun Z Z=>rfl,fun Z=>rfl⟩) (fun Z Z Z Z q Z=>q▸⟨fun Z Z=>rfl,fun Z Z=>rfl,fun Z Z=>rfl,fun Z Z=>rfl,fun Z=>rfl⟩) (fun Z Z Z q Z=>q▸⟨fun Z Z=>rfl,fun Z Z=>rfl,fun Z Z=>rfl,fun Z Z=>rfl,fun Z=>rfl⟩) (fun Z Z Z Z Z h=>nomatch h) (fun Z Z Z Z q Z=>q▸⟨fun Z Z=>rfl,fun Z Z=>rfl,fun Z Z=>rfl,fun Z Z=>rfl,fun Z=>rfl⟩) (fun Z Z Z q Z=>q▸⟨fun Z Z=>rfl,fun Z Z=>rfl,fun Z Z=>rfl,fun Z Z=>rfl,fun Z=>rfl⟩) (fun Z Z Z Z q Z=>q▸⟨fun Z Z=>rfl,fun Z Z=>rfl,fun Z Z=>rfl,fun Z Z=>rfl,fun Z=>rfl⟩) (fun Z Z Z Z q Z=>q▸⟨fun Z Z=>rfl,fun Z Z=>rfl,fun Z Z=>rfl,fun Z Z=>rfl,fun Z=>rfl⟩) (fun f a k p q=>q▸jv (P:=fun b=>b=true->zu (.Call f a k p)) (fun h=>nomatch h) (fun Z Z Z Z h=>nomatch h) (fun Z Z Z Z Z h=>nomatch h) (fun Z Z Z Z h=>nomatch h) (fun Z Z Z Z Z h=>nomatch h) (fun Z Z Z Z Z h=>nomatch h) (fun Z Z Z Z h=>nomatch h) (fun Z Z Z Z Z h=>nomatch h) (fun Z Z Z Z Z h=>nomatch h) (fun Z Z Z Z Z h=>nomatch h) (fun Z Z Z Z Z h=>nomatch h) (fun Z Z Z h=>nomatch h) (fun Z Z Z Z h=>nomatch h) (fun Z Z Z cK Z=>cK▸⟨fun Z Z=>rfl,fun Z Z=>rfl,fun Z Z=>rfl,fun Z Z=>rfl,fun Z=>rfl⟩) (fun Z Z Z Z h=>nomatch h) (fun Z Z cK=>kU (P:=fun b=>b=true->zu (.Call f a k p)) (fun Z Z hc Z=>cK▸hc▸⟨fun Z Z=>rfl,fun Z Z=>rfl,fun Z Z=>rfl,fun Z Z=>rfl,fun Z=>rfl⟩) (fun h=>nomatch h)) (fun Z Z Z h=>nomatch h) (fun Z Z Z Z h=>nomatch h)) (fun Z Z Z Z Z h=>nomatch h) (fun Z Z q Z=>q▸⟨fun Z Z=>rfl,fun Z Z=>rfl,fun Z Z=>rfl,fun Z Z=>rfl,fun Z=>rfl⟩) (fun Z Z Z q Z=>q▸⟨fun Z Z=>rfl,fun Z Z=>rfl,fun Z Z=>rfl,fun Z Z=>rfl,fun Z=>rfl⟩) (fun Z Z Z q Z=>q▸⟨fun Z Z=>rfl,fun Z Z=>rfl,fun Z Z=>rfl,fun Z Z=>rfl,fun Z=>rfl⟩) (fun Z Z Z q Z=>q▸⟨fun Z Z=>rfl,fun Z Z=>rfl,fun Z Z=>rfl,fun Z Z=>rfl,fun Z=>rfl⟩) (fun Z Z q Z=>q▸⟨fun Z Z=>rfl,fun Z Z=>rfl,fun Z Z=>rfl,fun Z Z=>rfl,fun Z=>rfl⟩) (fun Z Z q Z=>q▸⟨fun Z Z=>rfl,fun Z Z=>rfl,fun Z Z=>rfl,fun Z Z=>rfl,fun Z=>rfl⟩) (fun Z Z Z q Z=>q▸⟨fun Z Z=>rfl,fun Z Z=>rfl,fun Z Z=>rfl,fun Z Z=>rfl,fun Z=>rfl⟩)
noncomputable def n5(e:Expr):Bool:=ha e false (bo:=fun Z Z=>true) (bi:=fun Z Z Z=>true) (un:=fun Z Z=>true) (mh:=fun Z Z Z=>true) (lg:=fun Z Z=>true) (cp:=fun Z Z Z=>true) (js:=fun Z=>true) (co:=fun Z=>true) (lh:=fun Z Z Z=>true) (mi:=fun Z Z=>true) (nn:=fun Z Z=>true) (li:=fun Z=>true) (ca:=fun Z Z Z Z=>true) (lc:=fun Z Z Z Z=>false) (mj:=fun Z=>true)
theorem sm{e:Expr}(h:n5 e=true)(t:Option Expr)(l:Nat)(env:Env):swapsWith e t l env=pure false:=(show n5 e=true->_ from jv (P:=fun b=>b=true->swapsWith e t l env=pure false) (fun h=>nomatch h) (fun Z Z Z q Z=>q▸rfl) (fun Z Z Z Z q Z=>q▸rfl) (fun Z Z Z q Z=>q▸rfl) (fun Z Z Z Z Z h=>nomatch h) (fun Z Z Z Z q Z=>q▸rfl) (fun Z Z Z q Z=>q▸rfl) (fun Z Z Z Z Z h=>nomatch h) (fun Z Z Z Z q Z=>q▸rfl) (fun Z Z Z Z q Z=>q▸rfl) (fun Z Z Z Z Z h=>nomatch h) (fun Z Z q Z=>q▸rfl) (fun Z Z Z q Z=>q▸rfl) (fun Z Z Z q Z=>q▸rfl) (fun Z Z Z q Z=>q▸rfl) (fun Z Z q Z=>q▸rfl) (fun Z Z q Z=>q▸rfl) (fun Z Z Z q Z=>q▸rfl)) h
theorem DC{env:Env}{pos:Pos}:∀{bw:List Expr},bw.all nice=true->(∀p∈backTo pos (starEach bw env),p.1=false)
 | [],Z,p,h=>nomatch h
 | e::r,h,p,bc=>by
  rw[List.all_cons,Bool.and_eq_true] at h
  rw[(gW h.1).st] at bc
  rcases List.mem_cons.mp bc with rfl|bc
  ·rfl
  ·exact DC h.2 p bc
theorem sf{env:Env}{pos:Pos}{bw:List Expr}(h:bw.all nice=true):(backTo pos (starEach bw env)).any (·.1)=false:=by
 rw[List.any_eq_false];intro p bc;rw[DC h p bc];exact Bool.false_ne_true
theorem xm{env:Env}{pos:Pos}{bw:List Expr}(h:bw.all nice=true)(aF:Nat.blt bw.length 29=true):((backTo pos (starEach bw env)).all (fun x=>!x.1)&&(backToKw pos (keywordEach [] env)).all (fun x=>x.1.isSome)&&decide (bw.length+([]:List Keyword).length+(if ([]:List Keyword).isEmpty then 0 else 1)<30))=true:=by
 rw[Bool.and_eq_true,Bool.and_eq_true]
 refine⟨⟨List.all_eq_true.mpr fun p bc=>by exact congrArg _ (DC h p bc),rfl⟩,decide_eq_true ?_⟩
 have:=Nat.ble_eq.mp aF
 show bw.length+0+0<30
 (first|lia|omega)
noncomputable def DE(e:Expr):Bool:=ha e false (bo:=fun Z Z=>true) (bi:=fun Z Z Z=>true) (un:=fun Z Z=>true) (mh:=fun Z Z Z=>true) (lg:=fun Z Z=>true) (cp:=fun Z Z Z=>true) (js:=fun Z=>true) (co:=fun Z=>true) (lh:=fun Z Z Z=>true) (mi:=fun Z Z=>true) (nn:=fun Z Z=>true) (li:=fun Z=>true) (ca:=fun Z Z Z Z=>true) (lc:=fun Z Z Z Z=>true) (mj:=fun Z=>false)
theorem U1{e:Expr}(h:DE e=true){bw:List Expr}{k:Nat}{p:Pos}{env:Env}:swappedStores [.Tuple bw k p] e env=pure none:=(show DE e=true->_ from jv (P:=fun b=>b=true->swappedStores [.Tuple bw k p] e env=pure none) (fun h=>nomatch h) (fun Z Z Z q Z=>q▸rfl) (fun Z Z Z Z q Z=>q▸rfl) (fun Z Z Z q Z=>q▸rfl) (fun Z Z Z Z Z h=>nomatch h) (fun Z Z Z Z q Z=>q▸rfl) (fun Z Z Z q Z=>q▸rfl) (fun Z Z Z Z q Z=>q▸rfl) (fun Z Z Z Z q Z=>q▸rfl) (fun Z Z Z Z q Z=>q▸rfl) (fun Z Z Z Z Z h=>nomatch h) (fun Z Z q Z=>q▸rfl) (fun Z Z Z q Z=>q▸rfl) (fun Z Z Z q Z=>q▸rfl) (fun Z Z Z q Z=>q▸rfl) (fun Z Z q Z=>q▸rfl) (fun Z Z q Z=>q▸rfl) (fun Z Z Z Z h=>nomatch h)) h
structure rU where
 pc:List (Str×aU):=[]
 uk:List (Str×lq):=[]
 bb:List (Str×kL):=[]
 xV:List (Str×(Nat->List D->List D->(D->Prop)->Prop)):=[]
 ae:List Nat
 fN:List Nat:=[]
 fO:List Nat:=[]
 gC:List Nat:=[]
 fP:List Nat:=[]
 mu:List Nat:=[]
 dr:List (Nat×List Nat):=[]
 dead:List Nat:=[]
 ww:Bool:=false
 xH:Bool:=false
 Pr:Bool:=false
 vec:Bool:=false
structure rU.Ok(cf:rU)(B:bC w)(n:Nat):Prop where
 pc:∀p∈cf.pc,∃r,r∈rows/\r.name=p.1/\bg B n r p.2
 uk:∀p∈cf.uk,∃r,r∈rows/\r.name=p.1/\i2 B n r p.2
 bb:∀p∈cf.bb,∃r,r∈rows/\r.name=p.1/\ix B n r p.2
 xV:∀p∈cf.xV,∀j,jz B n j (p.2 j)
 vec:cf.vec=true->∃k,n=k+2
noncomputable abbrev jQ{α:Type}(l:List (Str×α))(s:Str):Option α:=(l.find? fun p=>p.1==s).map (·.2)
theorem nM{α:Type}{l:List (Str×α)}{s:Str}{a:α}(h:jQ l s=some a):(s,a)∈l:=by
 refine aW (Option.map_eq_some_iff.mp h) fun p bc l8=>?_
 subst l8
 have aw:=List.find?_some bc
 exact(beq_iff_eq.mp aw)▸(List.mem_of_find?_eq_some bc)
noncomputable abbrev nu(l:List Nat)(s:Str):Option Nat:=l.find? fun x=>nm x==s
theorem za{l:List Nat}{s:Str}{x:Nat}(h:nu l s=some x):nm x=s:=beq_iff_eq.mp (List.find?_some (p:=fun x=>nm x==s) h)
noncomputable abbrev gl(sc:Sc)(s:Str):Bool:=sc.lookup s==some .globalImplicit
theorem sO{sc:Sc}{s:Str}(h:gl sc s=true):sc.lookup s=some .globalImplicit:=beq_iff_eq.mp h
noncomputable abbrev jb{α:Type}(l:List Nat)(sc:Sc)(s:Str)(f:Nat->α)(d:α):α:=on (nu l s) (fun x=>dt (isVar sc s) (f x) d) d
theorem j9{α:Type}{P:α->Prop}{l:List Nat}{sc:Sc}{s:Str}{f:Nat->α}{d:α}(aw:∀x,nm x=s->isVar sc s=true->P (f x))(ai:P d):P (jb l sc s f d):=hK (fun x e=>dE (aw x (za e)) ai) ai
noncomputable abbrev wu{α:Type}(l:List Nat)(sc:Sc)(s:Str)(f:Nat->α)(d:α):α:=on (nu l s) (fun x=>dt (eS sc s&&Nat.blt x 119) (f x) d) d
theorem yl{α:Type}{P:α->Prop}{l:List Nat}{sc:Sc}{s:Str}{f:Nat->α}{d:α}(aw:∀x,nm x=s->eS sc s=true->x<d6.length->P (f x))(ai:P d):P (wu l sc s f d):=hK (fun x e=>dE (fun h=>by
 rw[Bool.and_eq_true] at h
 exact aw x (za e) h.1 (Nat.lt_of_lt_of_le (Nat.ble_eq.mp h.2) (by decide +kernel))) ai) ai
noncomputable abbrev Ou(o:Operator)(l:Expr):Option (D->D->(D->Prop)->Prop):=match o with
 | .Add=>some (f2 c7)|.Sub=>some (f2 gq)|.Mult=>some (sB l (fun Z=>f2 Dr) (f2 fU))|.Mod=>some (f2 jE)|.FloorDiv=>some (f2 sW)|.Pow=>some (f2 ri)|_=>none
theorem Ye{o:Operator}{l:Expr}{op:D->D->(D->Prop)->Prop}(h:Ou o l=some op):fi (w:=w) B n (binaryOp o) op:=by
 cases o
 ·exact Option.some.inj h▸Lk
 ·exact Option.some.inj h▸aaL
 ·exact Option.some.inj h▸vn (fun Z Z Z=>XS) aaM
 ·exact ns h
 ·exact ns h
 ·exact Option.some.inj h▸aaN
 ·exact Option.some.inj h▸aaP
 ·exact ns h
 ·exact ns h
 ·exact ns h
 ·exact ns h
 ·exact ns h
 ·exact Option.some.inj h▸aaO
noncomputable abbrev Ov(o:UnaryOp):Option (D->(D->Prop)->Prop):=match o with|.Not=>some (f1 D6)|.USub=>some (f1 lU)|_=>none
theorem Yg{o:UnaryOp}{op:D->(D->Prop)->Prop}(h:Ov o=some op):l3 (w:=w) B n (unaryOp o) op:=by
 cases o
 ·exact ns h
 ·exact Option.some.inj h▸abf
 ·exact ns h
 ·exact Option.some.inj h▸aaQ
noncomputable abbrev xn(o:CmpOp):D->D->(Bool->Prop)->Prop:=match o with
 | .Eq=>a6 ck|.NotEq=>a6 gf|.Lt=>a6 jk|.LtE=>a6 w8|.Gt=>a6 hS|.GtE=>a6 oe|.Is=>a6 ec|.IsNot=>a6 kW|.In=>a6 mem|.NotIn=>a6 ip
theorem Ls{o:CmpOp}:fi (w:=w) B n (compareOp o) (d7 (xn o)):=by
 cases o
 ·exact wo
 ·exact D5
 ·exact adY
 ·exact ad0
 ·exact adZ
 ·exact ad1
 ·exact ad2
 ·exact VO
 ·exact ad3
 ·exact Dm
noncomputable abbrev Pt:Const->bG|.none=>au .none|.bool b=>au (.bool b)|.int i=>au (.int i)|.str s=>au (.str s)|_=>no
theorem ab4{sc:Sc}{c:Const}{k:Nat}{p:Pos}:bI B n sc (.Constant c k p) (Pt c):=by
 cases c <;> first|exact Cz|exact yJ|exact e8|exact q1|exact ek
variable (cf:rU) (r:Sc->Expr->bG) (t:Sc->Expr->db) (sc:Sc)
noncomputable def iC:List Expr->cj
 | []=>az
 | e::l=>dt (nice e) (aj (r sc e) (iC l)) no
noncomputable def Aw(op:BoolOp):List Expr->bG
 | []=>no
 | x::l=>jP l (fun Z Z=>(match op with|.And=>n4 (r sc x) (Aw op l)|.Or=>tL (r sc x) (Aw op l))) (r sc x)
noncomputable def ua(op:BoolOp):List Expr->db
 | []=>(match op with|.And=>cg|.Or=>h3)
 | x::l=>(match op with|.And=>eW (t sc x) (ua op l)|.Or=>ew (t sc x) (ua op l))
noncomputable def xo(ifs:List Expr):db:=kv ifs cg (jF ifs (fun c=>t sc c) no)
noncomputable def Ax(own:List Nat)(elt:Expr):List Comprehension->iz
 | []=>cy (r sc elt)
 | g::l=>gn g.target (fun s=>on (nu own s) (fun y=>dt (eS sc s&&Nat.blt y 119&&(g.is_async==0)&&nice g.iter&&Nat.ble g.ifs.length 1&&(l.head?.all fun ao=>ao.is_async==0)) (o6 y (r sc g.iter) (xo t sc g.ifs) (Ax own elt l)) (fun Z Z Z=>False)) (fun Z Z Z=>False)) (fun Z Z Z=>False)
noncomputable def Gk:List (Option Expr)->List Expr->List Str->(List Str->cj->bG)->bG
 | [],[],ks,f=>f ks.reverse az
 | o::bw,e::l,ks,f=>on o (fun k=>onStr k (fun s=>Gk bw l (s::ks) fun ahj R=>f ahj (aj (r sc e) R)) no) no
 | Z,bt,cD,et=>no
noncomputable abbrev M1:List Comprehension->Option (List Nat)
 | []=>some []
 | g::l=>gn g.target (fun s=>on (nu cf.ae s) (fun x=>(M1 l).map (x::·)) none) none
noncomputable abbrev tV{α:Type}(elt:Expr)(gens:List Comprehension)(scope:Scope)(K:Nat->List Nat->bG->db->iz->α)(d:α):α:=
 jP gens (fun g rest=>gn g.target (fun s=>on (nu cf.ae s) (fun x=>on (M1 cf rest) (fun eb=>dt (sw sc scope (x::eb)&&(g.is_async==0)&&nice g.iter&&Nat.ble g.ifs.length 1&&(rest.head?.all fun ao=>ao.is_async==0)) (K x eb (r sc g.iter) (xo t scope.names g.ifs) (Ax r t scope.names (x::eb) elt rest)) d) d) d) d) d
noncomputable abbrev Eh:List (Str×aU):=[("len",a8 c8),("abs",a8 mV),("max",a8 mW),("range",cF),("list",a8 hp),("tuple",a8 sy),("str",a8 jd),("sum",a8 sX)]
noncomputable abbrev M2:List (Str×(D->Option Bool)):=[("Vector",xa),("list",Fe),("tuple",Ff)]
noncomputable abbrev Ei:List (Str×(List D->List D->(D->List D->Prop)->Prop)):=[("append",dd d9),("extend",dd sk),("insert",dd vD),("reverse",dd BP)]
noncomputable abbrev Ej:List (Str×Nat×(D->List D->(D->Prop)->Prop)):=[("count",0,ft oT),("index",0,ft nQ),("get",2,ft wp),("join",3,ft mL),("rjust",3,ft CH)]
noncomputable abbrev Fx:List (Str×(D->(D->Prop)->Prop)):=[("kind",gX),("items",dD),("attrs",gF)]
noncomputable def M3(args:List Expr):bG:=jP args (fun e l=>jF l (fun a=>gn a (fun x=>on (jQ M2 x) (fun f=>dt (gl sc x) (rj (r sc e) f) no) no) no) no) no
noncomputable def xq(g:Str)(args:List Expr):bG:=
 on (jQ Eh g) (fun C=>aT C (iC r sc args)) (dt (g=="isinstance") (M3 r sc args) (dt (g=="Vector"&&cf.vec) (hC (iC r sc args))
  (on (jQ cf.bb g) (fun C=>jP args (fun e l=>gn e (fun s=>jb cf.ae sc s (fun x=>gG x C (iC r sc l)) no) no) no) (on (jQ cf.pc g) (fun C=>aT C (iC r sc args)) no))))
noncomputable def Pu(g:Str)(args:List Expr):bG:=
 dt (args.all nice&&!args.isEmpty) (on (jQ cf.xV g) (fun L=>jP args (fun Z Z=>jb cf.ae sc g (fun x=>qU x L (iC r sc args)) no) no)
  (dt (gl sc g&&!(g=="__debug__")) (dt (g=="len") (jF args (fun e=>gn e (fun s=>jb cf.fO sc s (fun x=>sL x) (xq cf r sc g args)) (xq cf r sc g args)) (xq cf r sc g args)) (xq cf r sc g args)) no)) no
noncomputable def Fy(o:Expr)(a:Str)(args:List Expr):bG:=
 dt (nice o) (jP args (fun Z Z=>dt (cf.xH&&a=="index") (iF (r sc o) 1 (iC r sc args) (ft Cj)) (on (jQ Ej a) (fun p=>iF (r sc o) p.1 (iC r sc args) p.2) no)) no) no
noncomputable def Ow(o:Expr)(a:Str)(args:List Expr):bG:=
 on (jQ Ei a) (fun op=>gn o (fun s=>jb cf.ae sc s (fun x=>dS x (iC r sc args) op) no)
  (Md o (fun v i=>gn v (fun s=>jb cf.ae sc s (fun x=>jF args (fun e=>dt (a=="append"&&nice i) (sA x (r sc i) (r sc e)) no) no) no) no) no)) (Fy cf r sc o a args)
noncomputable def M4(f:Expr)(args q5:List Expr)(c2:Pos)(fH:Pos):bG:=
 CJ f (fun v a p=>dt (a=="setdefault"&&p.endLine==fH.line) (gn v (fun s=>jb cf.ae sc s (fun x=>jP q5 (fun iB l=>dt (nice iB) (jF l (fun e=>sB e (fun bw=>kv bw (jF args (fun e=>gn e (fun iR=>jb cf.ae sc iR (fun y=>Ci x (r sc iB) y) no) no) no) no) no) no) no) no) no) no) no) no
noncomputable def Pv(o:Expr)(a:Str)(ap:Pos)(args:List Expr)(pos:Pos):bG:=
 dt (args.all nice&&Nat.blt args.length 29&&ap.endLine==pos.line) (Lr o (fun f q5 k fH=>kv k (dt (a=="append") (M4 cf r sc f args q5 pos fH) (Fy cf r sc o a args)) no) (Ow cf r sc o a args)) no
noncomputable def Ox(e:Expr):bG:=ha e no
 (co:=Pt)
 (nn:=fun s Z=>jb cf.ae sc s (fun x=>ag x) (dt (s=="MOST_LENGTH"&&gl sc s) (au (.int 1000000)) no))
 (bi:=fun l o x=>on (Ou o l) (fun op=>ak (r sc l) (r sc x) op) no)
 (un:=fun o x=>on (Ov o) (fun op=>aD (r sc x) op) no)
 (cp:=fun l os xs=>jF os (fun o=>jF xs (fun x=>dt (nice x) (ak (r sc l) (r sc x) (d7 (xn o))) no) no) no)
 (bo:=fun op bw=>Aw r sc op bw)
 (mh:=fun c x y=>dK (t sc c) (r sc x) (r sc y))
 (mj:=fun bw=>dN (iC r sc bw))
 (li:=fun bw=>eList (iC r sc bw))
 (lg:=fun ks ae=>Gk r sc ks ae [] fun ks R=>dt (decide ks.Nodup&&!ks.isEmpty&&Nat.ble ks.length 15) (sM ks R) no)
 (js:=fun ae=>jP ae (fun a l=>jP l (fun b l=>jF l (fun c=>Eg a (fun x=>onStr b (fun s=>Eg c (fun y=>dt (Nat.ble s.length 100) (Fi (r sc x) s (r sc y)) no) no) no) no) no) no) no)
 (mi:=fun v s=>match s with
  | .Slice (some lo) none none Z=>gn v (fun Z=>yu (r sc v) (r sc lo)) no
  | .Slice none (some lo) none Z=>gn v (fun Z=>fun ρ k=>kT (fun ρ k=>r sc v ρ fun a aY=>dO (ju a) (k a aY)) (r sc lo) ρ k) (sB v (fun Z=>fun ρ k=>kT (fun ρ k=>r sc v ρ fun a aY=>dO (!ju a) (k a aY)) (r sc lo) ρ k) no)
  | s=>dt (nice s) (gn v (fun Ay=>jb cf.fN sc Ay (fun x=>ja x (r sc s)) (ak (r sc v) (r sc s) (f2 item))) (ak (r sc v) (r sc s) (f2 item))) no)
 (lh:=fun v a Z=>on (jQ Fx a) (fun op=>dt (nice v) (aD (r sc v) op) no) no)
 (ca:=fun f args k p=>kv k (gn f (fun g=>Pu cf r sc g args) (CJ f (fun o a ap=>Pv cf r sc o a ap args p) no)) no)
 (lc:=fun x g s Z=>tV cf r t sc x g s (fun x eb eh T S=>cE x eb eh T S) no)
noncomputable def Oy(e:Expr):db:=ha e (dt (nice e) (dy (r sc e)) no)
 (un:=fun o x=>match o with|.Not=>xI (t sc x)|_=>no)
 (bo:=fun op bw=>ua t sc op bw)
 (mh:=fun c x y=>NS (t sc c) (t sc x) (t sc y))
 (cp:=fun l os xs=>jF os (fun o=>jF xs (fun x=>dt (nice x) (dt (o==.In||o==.NotIn) (gn x (fun s=>jb cf.fO sc s (fun i=>o7 (o==.NotIn) (r sc l) i) (bl (r sc l) (r sc x) (xn o))) (bl (r sc l) (r sc x) (xn o))) (bl (r sc l) (r sc x) (xn o))) no) no) no)
noncomputable def oE:Nat->(Sc->Expr->bG)×(Sc->Expr->db):=Nat.rec (fun Z Z=>no,fun Z Z=>no) fun Z c9=>(Ox cf c9.1 c9.2,Oy cf c9.1 c9.2)
variable (b:List Stmt->bh)
noncomputable abbrev zv(l:Nat):List Nat:=match cf.dr.find? (fun p=>p.1==l) with|some p=>p.2|none=>[]
noncomputable def xr(e:Expr):bh:=gn e (fun s=>jb cf.gC sc s (fun x=>jx x) (bJ (r sc e))) (bJ (r sc e))
noncomputable def Pw(e:Expr):bh:=dt cf.Pr (ha e (xr cf r sc e) (mh:=fun c x y=>bF (t sc c) (xr cf r sc x) (xr cf r sc y))) (xr cf r sc e)
noncomputable def Px(x:Nat)(e:Expr)(K:mr->bh)(d:bh):bh:=ha e d
 (li:=fun bw=>jP bw (fun aD l=>jF l (fun ak=>sB aD (fun kz=>sB ak (fun iP=>kv kz (kv iP (K (vU 2)) no) no) (K (eH (iC r sc bw)))) (K (eH (iC r sc bw)))) (K (eH (iC r sc bw)))) (K (eH (iC r sc bw))))
 (lg:=fun ks ae=>kv ks (kv ae (dt (cf.mu.contains x) (K Cd) (K vQ)) d) d)
 (ca:=fun f args k Z=>kv k (gn f (fun g=>jP args (fun Z Z=>dt (args.all nice&&gl sc g&&!(g=="__debug__")) (dt (g=="Vector"&&cf.vec) (K (w7 (iC r sc args))) (on (jQ cf.uk g) (fun C=>K (yO C (iC r sc args))) d)) d) d) d) d)
noncomputable def names:List Expr->Option (List Nat)
 | []=>some []
 | e::l=>on (names l) (fun xs=>gn e (fun s=>wu cf.ae sc s (fun x=>some (x::xs)) none) none) none
noncomputable def Oz(iS value:Expr):bh:=ha iS no
 (nn:=fun s p=>wu cf.ae sc s (fun x=>dt (cf.fP.contains x)
   (Ef value (fun mx g scope q=>tV cf r t sc mx g scope (fun y eb eh T S=>dt (sc.lookup s==some .local&&p.line==q.line&&!(scope.names.any fun p=>p.1==s&&(p.2==.local||p.2==.cell))) (mH x y eb eh T S) no) no)
    (dt (n5 value) (Px cf r sc x value (fun W=>dV x W) (bM x (r sc value))) no))
   (Ef value (fun mx g scope q=>dt (sc.lookup s==some .cell) (bM x (r sc value)) (tV cf r t sc mx g scope (fun y eb eh T S=>dt (sc.lookup s==some .local&&p.line==q.line&&!(scope.names.any fun p=>p.1==s&&(p.2==.local||p.2==.cell))) (bM x (cE y eb eh T S)) no) no))
    (dt (n5 value) (bM x (r sc value)) no))) no)
 (mi:=fun v i=>gn v (fun s=>jb cf.ae sc s (fun x=>dt (n5 value) (lP x (r sc i) (r sc value)) no) no) no)
 (lh:=fun v a Z=>gn v (fun s=>jb cf.ae sc s (fun x=>dt (n5 value) (dt (a=="shared") (ha value no (co:=fun c=>match c with|.bool true=>yQ x|_=>no))
   (dt (a=="kind") (ke x 0 (r sc value)) (dt (a=="items") (ke x 1 (r sc value)) (dt (a=="attrs") (ke x 2 (r sc value)) no)))) no) no) no)
 (mj:=fun bw=>on (names cf sc bw) (fun xs=>dt (n5 value&&DE value) (Dv xs (r sc value)) no) no)
noncomputable def Fz(st:Stmt):bh:=Af st no
 (re:=fun e=>on e (fun e=>Pw cf r t sc e) L2)
 (ex:=fun e=>dt (n5 e) (dG (r sc e)) no)
 (ii:=fun c x y=>bF (t sc c) (b x) (b y))
 (OX:=fun c x y p=>kv y (dt cf.ww (vE (zv cf p.line) (t sc c) (b x)) (qT (zv cf p.line) (t sc c) (b x))) no)
 (fo:=fun iS it x y p=>kv y (dt (nice it) (gn iS (fun s=>wu cf.ae sc s (fun i=>dF i (zv cf p.line) (r sc it) (b x)) no) (Mf iS (fun bw=>on (names cf sc bw) (fun xs=>Dw xs (zv cf p.line) (r sc it) (b x)) no) no)) no) no)
 (OW:=fun iS o v=>gn iS (fun s=>wu cf.ae sc s (fun x=>dt (isVar sc s) (match o with
   | .Add=>dt (cf.fP.contains x) (lQ x (r sc v)) (kh x (r sc v) (f2 n2))|.Sub=>kh x (r sc v) (f2 gq)|_=>no) no) no) no)
 (as:=fun ts v=>jF ts (fun iS=>Oz cf r t sc iS v) no)
noncomputable def FA(s:Stmt->bh):List Stmt->bh
 | []=>aJ
 | st::l=>dt (cf.dead.contains st.pos.line) no (ay (s st) (FA s l))
noncomputable def Gl(k:Nat):Nat->List Stmt->bh:=Nat.rec (fun Z=>no) fun Z c9=>FA cf (Fz cf (oE cf k).1 (oE cf k).2 sc c9)
end
section
variable {w:World} {B:bC w} {n:Nat}
variable {cf:rU} {r:Sc->Expr->bG} {t:Sc->Expr->db} {sc:Sc}
theorem ahk{bw:List Expr}:hF B n sc bw no:=fun Z Z Z Z Z Z h=>h.elim
theorem tW{e:Expr}:ST B n sc e no:=fun Z Z Z Z Z h=>h.elim
theorem ahl{op:BoolOp}{bw:List Expr}:pN B n sc op bw no:=fun Z Z Z Z Z Z h=>h.elim
theorem e2{st:Stmt}:dp B n sc st no:=fun Z Z Z Z Z h=>h.elim
theorem FB{bv:Env}{own:List Nat}{cs:a7}{D:Addr}{t:Sem Unit}:kV B n bv own cs D t (fun Z Z Z=>False):=by
 unfold kV
 intros
 contradiction
section
variable (aA:∀sc e,bI B n sc e (r sc e)) (ht:∀sc e,ST B n sc e (t sc e))
include aA
theorem lR:∀bw,hF B n sc bw (iC r sc bw)
 | []=>fm
 | e::l=>dE (P:=fun W=>hF B n sc (e::l) W) (fun h=>ej (aA sc e) (lR l) ((gW h).st l)) ahk
theorem DF{op:BoolOp}:∀bw,pN B n sc op bw (Aw r sc op bw)
 | []=>ahl
 | [x]=>abd (aA sc x)
 | x::y::l=>by
  cases op
  ·exact v_and (aA sc x) (DF (y::l))
  ·exact v_or (aA sc x) (DF (y::l))
omit aA
include ht
theorem DG{op:BoolOp}:∀bw,SL B n sc op bw (ua t sc op bw)
 | []=>by
  cases op
  ·exact WR
  ·exact LZ
 | x::l=>by
  cases op
  ·exact Zy (ht sc x) (DG l)
  ·exact DY (ht sc x) (DG l)
theorem CK:∀{ifs:List Expr},Nat.ble ifs.length 1=true->(ifs=[]/\xo t sc ifs=cg)∨∃c,ifs=[c]/\ST B n sc c (xo t sc ifs)
 | [],Z=>.inl ⟨rfl,rfl⟩
 | [c],Z=>.inr ⟨c,rfl,ht sc c⟩
 | Z::bt::cD,h=>by injection h
include aA
theorem DH{bv:Env}{own:List Nat}{cs:a7}{D:Addr}{elt:Expr}{gens:List Comprehension}{scope:Scope}{pos:Pos}(ok:cS scope.names bv):∀(l:List Comprehension) (k:Nat),gens.drop (k+1)=l->kV B n bv own cs D (jy (.ListComp elt gens scope pos) gens elt k (.ref D) bv) (Ax r t scope.names own elt l)
 | [],k,e=>sd ok (aA _ elt) (by exact(List.head?_drop)▸e.symm▸rfl)
 | g::l,k,e=>by
  have cR:gens[k+1]?=some g:=by exact(List.head?_drop)▸e.symm▸rfl
  have aF:gens.drop (k+2)=l:=by exact(show k+2=(k+1)+1 from rfl).symm▸List.drop_drop▸e.symm▸rfl
  refine hj (P:=fun W=>kV B n bv own cs D _ W) (fun s p aD=>hK (fun y ak=>dE (fun h=>?_) FB) FB) FB
  simp only[Bool.and_eq_true] at h
  obtain⟨⟨⟨⟨⟨aw,ai⟩,a3⟩,bn⟩,bN⟩,cw⟩:=h
  obtain⟨iS,it,ifs,as⟩:=g
  dsimp only at aD a3 bn bN
  subst aD
  rw[beq_iff_eq.mp a3] at cR
  have hs:=za ak
  refine BJ ok hs cR (fun ao rC=>?_) (by exact hs.symm▸aw) (Nat.lt_of_lt_of_le (Nat.ble_eq.mp ai) (by decide +kernel)) (List.mem_of_find?_eq_some ak) (aA _ it) (CK ht bN) (DH ok l (k+1) aF) fun v=>(gW bn).fld _ v
  rw[<- List.head?_drop,aF] at rC
  rw[rC] at cw
  exact beq_iff_eq.mp cw
omit aA ht
theorem KJ{α:Type}{P:α->Prop}{elt:Expr}{gens:List Comprehension}{scope:Scope}{K:Nat->List Nat->bG->db->iz->α}{d:α}(aw:∀s e4 x iter ifs rest eb,gens=⟨.Name s e4,iter,ifs,0⟩::rest->nm x=s->sw sc scope (x::eb)=true->nice iter=true->Nat.ble ifs.length 1=true->(∀ao∈rest[0]?,ao.is_async=0)->P (K x eb (r sc iter) (xo t scope.names ifs) (Ax r t scope.names (x::eb) elt rest)))(ai:P d):P (tV cf r t sc elt gens scope K d):=
 kU (fun g rest e=>hj (fun s p aD=>hK (fun x ak=>hK (fun eb bz=>dE (fun h=>by
  simp only[Bool.and_eq_true] at h
  obtain⟨⟨⟨⟨rE,a3⟩,bn⟩,bN⟩,cw⟩:=h
  obtain⟨iS,it,ifs,as⟩:=g
  dsimp only at aD a3 bn bN
  subst aD
  rw[beq_iff_eq.mp a3] at e
  refine aw s p x it ifs rest eb e (za ak) rE bn bN fun ao rC=>?_
  rw[<- List.head?_eq_getElem?] at rC
  rw[rC] at cw
  exact beq_iff_eq.mp cw) ai) ai) ai) ai) ai
include aA ht
theorem Yh{elt:Expr}{gens:List Comprehension}{scope:Scope}{pos:Pos}:bI B n sc (.ListComp elt gens scope pos) (tV cf r t sc elt gens scope (fun x eb eh T S=>cE x eb eh T S) no):=
 KJ (P:=fun W=>bI B n sc _ W) (fun s e4 x iter ifs rest eb e aw ai a3 bn bN=>by
  subst e
  exact yL ai aw (aA sc iter) (CK ht bn) (fun bv cs D ok=>DH aA ht ok rest 0 rfl) bN (gW a3).fld) ek
omit aA ht
theorem Wa{g:Str}{C:aU}(h:jQ Eh g=some C):nj B n g C:=by
 have:=nM h
 simp only[Eh,List.mem_cons,Prod.mk.injEq,List.not_mem_nil,or_false] at this
 rcases this with⟨rfl,rfl⟩|⟨rfl,rfl⟩|⟨rfl,rfl⟩|⟨rfl,rfl⟩|⟨rfl,rfl⟩|⟨rfl,rfl⟩|⟨rfl,rfl⟩|⟨rfl,rfl⟩
 ·exact abC
 ·exact abD
 ·exact abE
 ·exact nL
 ·exact X7
 ·exact VZ
 ·exact abF
 ·exact abG
include aA
theorem Wb{p pos:Pos}{args:List Expr}(hn:args.all nice=true)(cR:sc.lookup ("isinstance":Str)=some .globalImplicit):bI B n sc (.Call (.Name "isinstance" p) args [] pos) (M3 r sc args):=
 kU (P:=fun W=>bI B n sc _ W) (fun e l aD=>kS (fun a ak=>hj (fun x q bz=>hK (fun f b5=>dE (fun h=>by
  subst aD ak bz
  replace hn:=List.all_cons▸hn
  rw[Bool.and_eq_true] at hn
  have hs:∀env,starEach [e,.Name x q] env=[(false,eval e env),(false,eval (.Name x q) env)]:=fun env=>by rw[(gW hn.1).st];rfl
  have aE:=sO h
  have:=nM b5
  simp only[M2,List.mem_cons,Prod.mk.injEq,List.not_mem_nil,or_false] at this
  rcases this with⟨rfl,rfl⟩|⟨rfl,rfl⟩|⟨rfl,rfl⟩
  ·exact Dp (aA sc e) aa3 (VR aE) cR hs
  ·exact Dp (aA sc e) XK (KA (by decide +kernel) (by rfl) aE rfl (by decide +kernel)) cR hs
  ·exact Dp (aA sc e) aa6 (KA (by decide +kernel) (by rfl) aE rfl (by decide +kernel)) cR hs) ek) ek) ek) ek) ek
theorem Yi(H:cf.Ok B n){g:Str}{p pos:Pos}{e:Expr}{l:List Expr}(hn:(e::l).all nice=true)(cR:sc.lookup g=some .globalImplicit)(hd:(g==("__debug__":Str))=false):bI B n sc (.Call (.Name g p) (e::l) [] pos) (xq cf r sc g (e::l)):=by
 have hs:=(gW (Bool.and_eq_true_iff.mp hn).1).st l
 have bp:=lR aA (sc:=sc) (e::l)
 refine hK (P:=fun W=>bI B n sc _ W) (fun C h=>oi (Wa h) bp cR hs fun env pos=>sf hn) (dE (fun h=>?_) (dE (fun h=>?_) (hK (fun C h=>?_) (hK (fun C h=>?_) ek))))
 ·obtain rfl:=beq_iff_eq.mp h
  exact Wb aA hn cR
 ·rw[Bool.and_eq_true] at h
  obtain rfl:=beq_iff_eq.mp h.1
  obtain⟨k,rfl⟩:=H.vec h.2
  exact adT bp cR hs fun env pos=>sf (Bool.and_eq_true_iff.mp hn).2
 ·refine eT (H.bb _ (nM h)) fun OA aw ai a3=>?_
  refine kU (fun a b aD=>hj (fun s q ak=>j9 (fun x bz b5=>?_) ek) ek) ek
  injection aD with dQ gh
  subst dQ gh ak
  exact Kv aw a3 ai bz b5 (lR aA l) cR hd hs
 ·refine eT (H.pc _ (nM h)) fun OA aw ai a3=>?_
  exact Lg aw a3 ai bp cR hd hs
theorem ab5(H:cf.Ok B n){g:Str}{p pos:Pos}{args:List Expr}:bI B n sc (.Call (.Name g p) args [] pos) (Pu cf r sc g args):=by
 refine dE (P:=fun W=>bI B n sc _ W) (fun h=>?_) ek
 rw[Bool.and_eq_true] at h
 cases args with
 | nil=>cases h.2
 | cons e l=>
  refine hK (fun L aw=>kU (fun Z Z Z=>j9 (fun x aD ak=>VY (H.xV _ (nM aw)) aD ak (lR aA (e::l)) ((gW (Bool.and_eq_true_iff.mp h.1).1).st l)) ek) ek) (dE (fun aw=>?_) ek)
  rw[Bool.and_eq_true,Bool.not_eq_true'] at aw
  have c2:=Yi aA H (p:=p) (pos:=pos) h.1 (sO aw.1) aw.2
  refine dE (fun ai=>kS (fun a aD=>hj (fun s q ak=>j9 (fun x bz b5=>?_) c2) c2) c2) c2
  obtain rfl:=beq_iff_eq.mp ai
  injection aD with dQ gh
  subst dQ gh ak
  exact XR bz b5 (sO aw.1)
end
end
section
variable {w:World} {B:bC w} {n:Nat}
variable {cf:rU} {r:Sc->Expr->bG} {t:Sc->Expr->db} {sc:Sc}
theorem KK{a:Str}{p:Nat×(D->List D->(D->Prop)->Prop)}(h:jQ Ej a=some p):m7 (w:=w) B n a (Fb p.1) p.2/\p.1<5:=by
 have:=nM h
 simp only[Ej,List.mem_cons,Prod.mk.injEq,List.not_mem_nil,or_false] at this
 rcases this with⟨rfl,rfl⟩|⟨rfl,rfl⟩|⟨rfl,rfl⟩|⟨rfl,rfl⟩|⟨rfl,rfl⟩
 ·exact⟨Ch,by decide⟩
 ·exact⟨KB,by decide⟩
 ·exact⟨abb,by decide⟩
 ·exact⟨XM,by decide⟩
 ·exact⟨VS,by decide⟩
theorem KL{a:Str}{op:List D->List D->(D->List D->Prop)->Prop}(h:jQ Ei a=some op):od (w:=w) B n a op:=by
 have:=nM h
 simp only[Ei,List.mem_cons,Prod.mk.injEq,List.not_mem_nil,or_false] at this
 rcases this with⟨rfl,rfl⟩|⟨rfl,rfl⟩|⟨rfl,rfl⟩|⟨rfl,rfl⟩
 ·exact BO
 ·exact UM
 ·exact UN
 ·exact T5
theorem Yj{a:Str}{op:D->(D->Prop)->Prop}(h:jQ Fx a=some op):l3 B n (fun v=>getAttr v a true) op:=by
 have:=nM h
 simp only[Fx,List.mem_cons,Prod.mk.injEq,List.not_mem_nil,or_false] at this
 rcases this with⟨rfl,rfl⟩|⟨rfl,rfl⟩|⟨rfl,rfl⟩
 ·exact W7
 ·exact Kq
 ·exact Kr
section
variable (aA:∀sc e,bI B n sc e (r sc e)) (ht:∀sc e,ST B n sc e (t sc e))
include aA
theorem Lv{o:Expr}{a:Str}{ap pos:Pos}{args:List Expr}(hn:args.all nice=true)(aF:Nat.blt args.length 29=true)(bc:(ap.endLine==pos.line)=true):bI B n sc (.Call (.Attribute o a ap) args [] pos) (Fy cf r sc o a args):=
 dE (P:=fun W=>bI B n sc _ W) (fun ho=>kU (fun e l aD=>by
  subst aD
  have hs:=(gW (Bool.and_eq_true_iff.mp hn).1).st l
  have aS:=(gW ho).Os a
  have bp:=lR aA (sc:=sc) (e::l)
  refine dE (fun h=>?_) (hK (fun p h=>?_) ek)
  ·rw[Bool.and_eq_true] at h
   obtain rfl:=beq_iff_eq.mp h.2
   exact vR (j:=1) (aA sc o) bp UT (by decide) bc aS (fun env=>xm hn aF) hs fun env pos=>sf hn
  ·exact vR (aA sc o) bp (KK (B:=B) (n:=n) h).1 (KK (B:=B) (n:=n) h).2 bc aS (fun env=>xm hn aF) hs fun env pos=>sf hn) ek) ek
theorem Yk{o:Expr}{a:Str}{ap pos:Pos}{args:List Expr}(hn:args.all nice=true)(aF:Nat.blt args.length 29=true)(bc:(ap.endLine==pos.line)=true):bI B n sc (.Call (.Attribute o a ap) args [] pos) (Ow cf r sc o a args):=
 hK (P:=fun W=>bI B n sc _ W) (fun op h=>hj (fun s q aD=>j9 (fun x ak bz=>by
  subst aD
  cases args with
  | nil=>exact Xz ak bz (KL h) bc fun env=>rfl
  | cons e l=>exact Dj ak bz (lR aA (e::l)) (KL h) bc (fun env=>rfl) (fun env=>xm hn aF) ((gW (Bool.and_eq_true_iff.mp hn).1).st l) fun env pos=>sf hn) ek)
  (Ue (fun v i q aD=>hj (fun s cK ak=>j9 (fun x bz b5=>kS (fun e dQ=>dE (fun ai=>by
   subst aD ak dQ
   rw[Bool.and_eq_true] at ai
   obtain rfl:=beq_iff_eq.mp ai.1
   exact VV (aA sc i) (aA sc e) bz b5 bc (gW ai.2).sub (fun env=>rfl) (fun env=>xm hn aF) fun env=>by rw[(gW (Bool.and_eq_true_iff.mp hn).1).st];rfl) ek) ek) ek) ek) ek)) (Lv aA hn aF bc)
theorem Wc{f:Expr}{args q5:List Expr}{fH c2 ap:Pos}(bc:(ap.endLine==c2.line)=true):bI B n sc (.Call (.Attribute (.Call f q5 [] fH) "append" ap) args [] c2) (M4 cf r sc f args q5 c2 fH):=
 IY (P:=fun W=>bI B n sc _ W) (fun v a p aD=>dE (fun h=>hj (fun s q ak=>j9 (fun x bz b5=>kU (fun iB l dQ=>dE (fun ai=>kS (fun e gh=>vn (fun bw cK t8=>lJ (fun aio=>kS (fun ake aip=>hj (fun iR hc ahm=>j9 (fun y cQ aW=>by
  subst aD ak dQ gh t8 aio aip ahm
  rw[Bool.and_eq_true] at h
  obtain rfl:=beq_iff_eq.mp h.1
  have hn:([iB,.List [] cK]:List Expr).all nice=true:=by rw[List.all_cons,ai];rfl
  exact UP (aA sc iB) bz b5 cQ aW h.2 bc (fun env=>rfl) (fun env=>rfl) (fun env=>xm hn rfl) fun env=>by rw[(gW ai).st];rfl) ek) ek) ek) ek) ek) ek) ek) ek) ek) ek) ek) ek
theorem ab6{o:Expr}{a:Str}{ap pos:Pos}{args:List Expr}:bI B n sc (.Call (.Attribute o a ap) args [] pos) (Pv cf r sc o a ap args pos):=by
 refine dE (P:=fun W=>bI B n sc _ W) (fun h=>?_) ek
 simp only[Bool.and_eq_true] at h
 refine bS h fun iK a3=>?_
 refine bS iK fun aw ai=>?_
 refine TF (fun f q5 k fH aD=>lJ (fun ak=>dE (fun bn=>?_) (Lv aA aw ai a3)) ek) (Yk aA aw ai a3)
 subst aD ak
 obtain rfl:=beq_iff_eq.mp bn
 exact Wc aA a3
theorem Mg{P:bG->Prop}(h0:P no):∀(bw:List (Option Expr)) (ae:List Expr) (xt:List Str) (f:List Str->cj->bG),(∀ks R,vT B n sc ks bw ae R->P (f (xt.reverse++ks) R))->P (Gk r sc bw ae xt f)
 | [],[],xt,f,h=>by
  have:=h [] az abg
  rw[List.append_nil] at this
  exact this
 | o::bw,e::l,xt,f,h=>hK (fun k aD=>Jj (fun s j p ak=>Mg h0 bw l (s::xt) _ fun ks R hd=>by
  subst aD ak
  have:=h (s::ks) (aj (r sc e) R) (XT (aA sc e) hd)
  rw[List.reverse_cons,List.append_assoc];exact this) h0) h0
 | [],Z::bt,cD,et,kI=>h0
 | Z::bt,[],cD,et,kI=>h0
omit aA
include aA ht
theorem Yl(H:cf.Ok B n)(e:Expr):bI B n sc e (Ox cf r t sc e):=by
 have nn:∀{e:Expr},bI B n sc e (no:bG):=ek
 cases e with
 | Constant c k p=>exact ab4
 | Name s p=>exact j9 (P:=fun W=>bI B n sc _ W) (fun x aD ak=>cZ ak aD) (dE (fun h=>by
   rw[Bool.and_eq_true] at h
   obtain rfl:=beq_iff_eq.mp h.1
   exact X6 (sO h.2)) nn)
 | BinOp l o x p=>exact hK (P:=fun W=>bI B n sc _ W) (fun op h=>LY (aA sc l) (aA sc x) (Ye h)) nn
 | UnaryOp o x p=>exact hK (P:=fun W=>bI B n sc _ W) (fun op h=>ady (aA sc x) (Yg h)) nn
 | Compare l os xs p=>exact kS (P:=fun W=>bI B n sc _ W) (fun o aD=>kS (fun x ak=>dE (fun h=>by
   subst aD ak
   exact Zo (aA sc l) (aA sc x) Ls ((gW h).Ot o)) nn) nn) nn
 | BoolOp op bw p=>exact abe (DF aA bw)
 | IfExp c x y p=>exact adz (ht sc c) (aA sc x) (aA sc y)
 | Tuple bw k p=>exact sI (lR aA bw)
 | List bw p=>exact CA (lR aA bw)
 | Dict ks ae p=>exact Mg aA (P:=fun W=>bI B n sc _ W) nn ks ae [] _ fun ks R hd=>dE (fun h=>by
   simp only[Bool.and_eq_true] at h
   obtain⟨⟨aw,ai⟩,a3⟩:=h
   exact XU hd (of_decide_eq_true aw) (fun e=>by replace e:ks=[]:=e;replace ai:=e▸ai;injection ai) (Nat.ble_eq.mp a3)) nn
 | JoinedStr ae p=>exact kU (P:=fun W=>bI B n sc _ W) (fun a l aD=>kU (fun b l ak=>kS (fun c bz=>JW (fun x aH b5=>Jj (fun s k aK dQ=>JW (fun y p3 gh=>dE (fun h=>by
   subst aD ak bz b5 dQ gh
   exact ad7 (aA sc x) (aA sc y) (Nat.ble_eq.mp h)) nn) nn) nn) nn) nn) nn) nn
 | Subscript v s p=>
  have dflt:bI B n sc (.Subscript v s p) (dt (nice s) (gn v (fun Ay=>jb cf.fN sc Ay (fun x=>ja x (r sc s)) (ak (r sc v) (r sc s) (f2 item))) (ak (r sc v) (r sc s) (f2 item))) no):=
   dE (P:=fun W=>bI B n sc _ W) (fun h=>by
    have d:=eM (pos:=p) (aA sc v) (aA sc s) (gW h).sub
    refine hj (fun Ay q aD=>j9 (fun x ak bz=>?_) d) d
    subst aD
    exact XQ ak bz (aA sc s) (gW h).sub) nn
  cases s with
  | Slice lo up st q=>
   cases st with
   | some=>cases lo <;> cases up <;> exact nn
   | none=>
    cases lo with
    | none=>cases up with
     | none=>exact nn
     | some up=>exact hj (P:=fun W=>bI B n sc _ W) (fun s q aD=>by subst aD;exact UL (aA sc _) (aA sc up) fun Z Z=>rfl) (vn (fun l q aD=>Tv (aA sc v) (aA sc up)) nn)
    | some lo=>cases up with
     | none=>exact hj (P:=fun W=>bI B n sc _ W) (fun s q aD=>by subst aD;exact UJ (aA sc _) (aA sc lo) fun Z Z=>rfl) nn
     | some=>exact nn
  | _=>exact dflt
 | Attribute v a p=>exact hK (P:=fun W=>bI B n sc _ W) (fun op h=>dE (fun ai=>CC (aA sc v) (Yj h) ((gW ai).Os a)) nn) nn
 | Call f args k p=>exact lJ (P:=fun W=>bI B n sc _ W) (fun aD=>by
   subst aD
   exact hj (P:=fun W=>bI B n sc _ W) (fun g q ak=>by subst ak;exact ab5 aA H) (IY (fun o a ap ak=>by subst ak;exact ab6 aA) nn)) nn
 | ListComp x g s p=>exact Yh aA ht
 | _=>exact nn
theorem Ym(e:Expr):ST B n sc e (Oy cf r t sc e):=by
 have aP:∀{e:Expr},(∀env,isTrue e env (eval e env)=(do let v <- eval e env;PySem.standAt e.pos;PySem.holding [v] (truthy v)))->ST B n sc e (dt (nice e) (dy (r sc e)) no):=fun aN=>dE (P:=fun W=>ST B n sc _ W) (fun Z=>sH (aA sc _) aN) tW
 cases e with
 | UnaryOp o x p=>cases o with
  | Not=>exact Zx (ht sc x)
  | _=>exact tW
 | BoolOp op bw p=>exact ML (DG ht bw)
 | IfExp c x y p=>exact adA (ht sc c) (ht sc x) (ht sc y)
 | Compare l os xs p=>exact kS (P:=fun W=>ST B n sc _ W) (fun o aD=>kS (fun x ak=>dE (fun h=>by
   subst aD ak
   have d:ST B n sc (.Compare l [o] [x] p) _:=nU (aA sc l) (aA sc x) Ls ((gW h).Ot o)
   refine dE (P:=fun W=>ST B n sc _ W) (fun ai=>hj (P:=fun W=>ST B n sc _ W) (fun s q bz=>j9 (P:=fun W=>ST B n sc _ W) (fun i b5 dQ=>?_) d) d) d
   subst bz
   cases o <;> first|exact Dq (neg:=false) (aA sc l) b5 dQ|exact Dq (neg:=true) (aA sc l) b5 dQ|injection ai) tW) tW) tW
 | _=>exact aP fun env=>rfl
omit aA ht
theorem lO(H:cf.Ok B n):∀k,(∀sc e,bI B n sc e ((oE cf k).1 sc e))/\∀sc e,ST B n sc e ((oE cf k).2 sc e)
 | 0=>⟨fun Z Z=>ek,fun Z Z=>tW⟩
 | k+1=>⟨fun sc e=>Yl (lO H k).1 (lO H k).2 H e,fun sc e=>Ym (lO H k).1 (lO H k).2 e⟩
end
end
section
variable {w:World} {B:bC w} {n:Nat}
variable {cf:rU} {r:Sc->Expr->bG} {t:Sc->Expr->db} {sc:Sc} {b:List Stmt->bh}
section
variable (aA:∀sc e,bI B n sc e (r sc e)) (ht:∀sc e,ST B n sc e (t sc e)) (aS:∀l,SB B n sc l (b l))
include aA
theorem yV{e:Expr}:mv B n sc e (xr cf r sc e):=
 hj (P:=fun W=>mv B n sc e W) (fun s p aD=>j9 (fun x ak bz=>by subst aD;exact af3 ak bz) (N3 (aA sc e))) (N3 (aA sc e))
include ht
theorem ab7{e:Expr}:mv B n sc e (Pw cf r t sc e):=by
 refine dE (P:=fun W=>mv B n sc e W) (fun Z=>?_) (yV aA)
 have d:=yV (cf:=cf) (e:=e) (sc:=sc) aA
 exact jv (P:=fun W=>mv B n sc e W) d (fun Z Z Z Z=>d) (fun Z Z Z Z Z=>d) (fun Z Z Z Z=>d) (fun Z Z Z Z Z=>d) (fun c x y p q=>q▸adV (ht sc c) (yV aA) (yV aA)) (fun Z Z Z Z=>d) (fun Z Z Z Z Z=>d) (fun Z Z Z Z Z=>d) (fun Z Z Z Z Z=>d) (fun Z Z Z Z Z=>d) (fun Z Z Z=>d) (fun Z Z Z Z=>d) (fun Z Z Z Z=>d) (fun Z Z Z Z=>d) (fun Z Z Z=>d) (fun Z Z Z=>d) (fun Z Z Z Z=>d)
omit ht
theorem ab8(H:cf.Ok B n){x:Nat}{e:Expr}{P:bh->Prop}{K:mr->bh}{d:bh}(aw:∀W,pM B n sc e W->P (K W))(ai:P d)(h0:P no):P (Px cf r sc x e K d):=by
 cases e with
 | List bw p=>
  have lr:=aw _ (yP (lR aA (sc:=sc) bw))
  refine kU (fun aD l gA=>kS (fun ak cK=>vn (fun kz aH hc=>vn (fun iP aK aiq=>lJ (fun air=>lJ (fun ais=>?_) h0) h0) lr) lr) lr) lr
  subst gA cK hc aiq air ais
  exact aw _ UR
 | Dict ks ae p=>exact lJ (fun aD=>lJ (fun ak=>by subst aD ak;exact dE (fun Z=>aw _ UC) (aw _ Vz)) ai) ai
 | Call f args k p=>exact lJ (fun aD=>hj (fun g q ak=>kU (fun e l bz=>dE (fun h=>by
   subst aD ak bz
   simp only[Bool.and_eq_true,Bool.not_eq_true'] at h
   obtain⟨⟨a3,bn⟩,bN⟩:=h
   have hs:=(gW (Bool.and_eq_true_iff.mp a3).1).st l
   refine dE (fun cw=>aw _ ?_) (hK (fun C cw=>aw _ ?_) ai)
   ·rw[Bool.and_eq_true] at cw
    obtain rfl:=beq_iff_eq.mp cw.1
    obtain⟨k,rfl⟩:=H.vec cw.2
    exact adU (lR aA (e::l)) (sO bn) hs fun env pos=>sf (Bool.and_eq_true_iff.mp a3).2
   ·refine eT (H.uk _ (nM cw)) fun OA a1 a2 jT=>?_
    exact Vy a1 jT a2 (lR aA (e::l)) (sO bn) bN hs) ai) ai) ai) ai
 | _=>exact ai
omit aA
theorem JX:∀{bw:List Expr} {xs:List Nat},names cf sc bw=some xs->∃ps:List (Nat×Pos),bw=ps.map (fun p=>.Name (nm p.1) p.2)/\xs=ps.map (·.1)/\∀p∈ps,eS sc (nm p.1)=true/\p.1<d6.length:=by
 intro es
 induction es with
 | nil=>
  intro Z h
  obtain rfl:=Option.some.inj h;exact gu [] rfl rfl (fun Z h=>nomatch h)
 | cons e l eo=>
  intro xs h
  revert h
  refine hK (P:=fun o=>o=some xs->_) (fun ys aD=>hj (P:=fun o=>o=some xs->_) (fun s p ak=>yl (P:=fun o=>o=some xs->_) (fun x bz b5 dQ h=>?_) (fun h=>by injection h)) (fun h=>by injection h)) (fun h=>by injection h)
  obtain rfl:=Option.some.inj h
  refine eT (eo aD) fun ps gA cK hc=>?_
  subst gA cK ak bz
  refine gu ((x,p)::ps) rfl rfl (fun q aL=>?_)
  rcases List.mem_cons.mp aL with rfl|aL
  ·exact⟨b5,dQ⟩
  ·exact hc q aL
include aA ht
theorem Yn(H:cf.Ok B n){iS value:Expr}{pos:Pos}:dp B n sc (.Assign [iS] value pos) (Oz cf r t sc iS value):=by
 cases iS with
 | Name s p=>
  refine yl (P:=fun W=>dp B n sc _ W) (fun x aD ak bz=>?_) e2
  have aI:n5 value=true->dp B n sc (.Assign [.Name s p] value pos) (bM x (r sc value)):=fun h=>L0 (aA sc value) aD ak bz fun env=>sm h _ _ env
  have eP:∀{mx:Expr} {g:List Comprehension} {scope:Scope} {q:Pos} {f:Nat->List Nat->bG->db->iz->bh},(∀y eb eh T S,dp B n sc (.Assign [.Name s p] (.ListComp mx g scope q) pos) (bM x (cE y eb eh T S))/\dp B n sc (.Assign [.Name s p] (.ListComp mx g scope q) pos) (mH x y eb eh T S)->dp B n sc (.Assign [.Name s p] (.ListComp mx g scope q) pos) (f y eb eh T S))->
    dp B n sc (.Assign [.Name s p] (.ListComp mx g scope q) pos) (tV cf r t sc mx g scope (fun y eb eh T S=>dt (sc.lookup s==some .local&&p.line==q.line&&!(scope.names.any fun p=>p.1==s&&(p.2==.local||p.2==.cell))) (f y eb eh T S) no) no):=fun hf=>
   KJ (P:=fun W=>dp B n sc _ W) (fun bP e4 y iter ifs rest eb e aw ai a3 bn bN=>dE (fun h=>by
    simp only[Bool.and_eq_true,Bool.not_eq_true'] at h
    obtain⟨⟨a1,a2⟩,jT⟩:=h
    subst e
    exact hf _ _ _ _ _ (Bx ai aw (aA sc iter) (CK ht bn) (fun bv cs D ok=>DH aA ht ok rest 0 rfl) aD (beq_iff_eq.mp a1) a2 jT bz bN (gW a3).fld)) e2) e2
  refine dE (fun Z=>JV (fun mx g scope q b5=>?_) (dE (fun h=>ab8 aA H (P:=fun W=>dp B n sc _ W) (fun W ei=>yN ei aD ak bz fun env=>sm h _ _ env) (aI h) e2) e2)) (JV (fun mx g scope q b5=>?_) (dE aI e2))
  ·subst b5
   exact eP fun Z Z Z Z Z z=>z.2
  ·subst b5
   exact dE (fun h=>X5 (aA sc _) aD (beq_iff_eq.mp h) bz) (eP fun Z Z Z Z Z z=>z.1)
 | Subscript v i q=>exact hj (P:=fun W=>dp B n sc _ W) (fun s p aD=>j9 (fun x ak bz=>dE (fun h=>by subst aD;exact XV (aA sc i) (aA sc value) ak bz fun env=>sm h _ _ env) e2) e2) e2
 | Attribute v a q=>exact hj (P:=fun W=>dp B n sc _ W) (fun s p aD=>j9 (fun x ak bz=>dE (fun h=>by
   subst aD
   have hw:=fun env=>sm h (some (.Attribute (.Name s p) a q)) pos.line env
   refine dE (fun aw=>?_) (dE (fun aw=>?_) (dE (fun aw=>?_) (dE (fun aw=>?_) e2)))
   all_goals obtain rfl:=beq_iff_eq.mp aw
   ·cases value with
    | Constant c k p=>cases c with
     | bool b=>cases b with
      | true=>exact VH ak bz
      | false=>exact e2
     | _=>exact e2
    | _=>exact e2
   ·exact oS (aA sc value) ak bz Ks hw
   ·exact oS (aA sc value) ak bz JD hw
   ·exact oS (aA sc value) ak bz JE hw) e2) e2) e2
 | Tuple bw k q=>exact hK (P:=fun W=>dp B n sc _ W) (fun xs aD=>dE (fun h=>by
   rw[Bool.and_eq_true] at h
   refine eT (JX aD) fun ps gA cK hc=>?_
   subst cK
   exact XY (aA sc value) gA hc (fun env=>sm h.1 (some (.Tuple bw k q)) pos.line env) fun env=>U1 h.2) e2) e2
 | _=>exact e2
include aS
theorem Lw(H:cf.Ok B n)(st:Stmt):dp B n sc st (Fz cf r t sc b st):=by
 cases st with
 | Return e p=>cases e with
  | none=>exact WV
  | some e=>exact Xr (ab7 aA ht)
 | Expr e p=>exact dE (P:=fun W=>dp B n sc _ W) (fun h=>D0 (aA sc e) fun env=>sm h _ _ env) e2
 | If c x y p=>exact o5 (ht sc c) (aS x) (aS y)
 | While c x y p=>exact lJ (P:=fun W=>dp B n sc _ W) (fun e=>by subst e;exact dE (P:=fun W=>dp B n sc _ W) (fun Z=>UU (ht sc c) (aS x)) (Km (ht sc c) (aS x))) e2
 | For iS it x y p=>exact lJ (P:=fun W=>dp B n sc _ W) (fun e=>by
   subst e
   refine dE (P:=fun W=>dp B n sc _ W) (fun h=>hj (fun s q aD=>yl (fun i ak bz b5=>?_) e2) (Uf (fun bw k q aD=>hK (fun xs ak=>?_) e2) e2)) e2
   ·subst aD;exact Dc (aA sc it) (aS x) ak bz b5 (gW h).fld
   ·refine eT (JX ak) fun ps gA cK hc=>?_
    subst aD cK
    exact XZ (aA sc it) (aS x) gA hc (gW h).fld) e2
 | AugAssign iS o v p=>exact hj (P:=fun W=>dp B n sc _ W) (fun s q aD=>yl (fun x ak bz b5=>dE (fun h=>by
   subst aD
   cases o with
   | Add=>exact dE (P:=fun W=>dp B n sc _ W) (fun Z=>yS (aA sc v) ak bz h b5) (L1 (aA sc v) XC ak bz h b5)
   | Sub=>exact L1 (aA sc v) XD ak bz h b5
   | _=>exact e2) e2) e2) e2
 | Assign ts v p=>exact kS (P:=fun W=>dp B n sc _ W) (fun iS aD=>by subst aD;exact Yn aA ht H) e2
 | _=>exact e2
omit aA ht aS
theorem Lx{s:Stmt->bh}(hs:∀st,dp B n sc st (s st)):∀l,SB B n sc l (FA cf s l)
 | []=>gp
 | st::l=>dE (P:=fun W=>SB B n sc _ W) (fun Z=>MM) (fI (hs st) (Lx hs l))
theorem DI(H:cf.Ok B n)(k:Nat):∀(j:Nat) (l:List Stmt),SB B n sc l (Gl cf sc k j l)
 | 0,Z=>MM
 | j+1,l=>Lx (Lw (lO H k).1 (lO H k).2 (DI H k j) H) l
theorem cA{names:Sc}{l:List Stmt}{W:bh}(H:cf.Ok B n)(e:Gl cf names 12 6 l=W):cu B n names l W:=⟨e▸DI H 12 6 l⟩
noncomputable def OB(cf:rU)(sc:Sc)(st:Stmt):bh:=Fz cf (oE cf 12).1 (oE cf 12).2 sc (Gl cf sc 12 6) st
theorem Yo(H:cf.Ok B n)(st:Stmt):dp B n sc st (OB cf sc st):=Lw (lO H 12).1 (lO H 12).2 (DI H 12 6) H st
end
end
section
variable {w:World} {B:bC w} {n:Nat} {env:Env} {ρ:aO} {g:G} {sc:List (Str×NameKind)}
theorem aQ{α:Type}{P:α->Prop}:∀p∈([]:List α),P p:=fun Z h=>nomatch h
theorem zx{α:Type}{P:α->Prop}{a:α}{l:List α}(h:P a)(aF:∀p∈l,P p):∀p∈a::l,P p:=List.forall_mem_cons.mpr ⟨h,aF⟩
theorem b4{r:bV}{C:aU}{l:List (Str×aU)}(h:bg B n r C)(hm:r∈rows)(aF:∀p∈l,∃r,r∈rows/\r.name=p.1/\bg B n r p.2):∀p∈(r.name,C)::l,∃r,r∈rows/\r.name=p.1/\bg B n r p.2:=zx ⟨r,hm,rfl,h⟩ aF
theorem M5{r:bV}{C:lq}{l:List (Str×lq)}(h:i2 B n r C)(hm:r∈rows)(aF:∀p∈l,∃r,r∈rows/\r.name=p.1/\i2 B n r p.2):∀p∈(r.name,C)::l,∃r,r∈rows/\r.name=p.1/\i2 B n r p.2:=zx ⟨r,hm,rfl,h⟩ aF
theorem Ek{r:bV}{C:kL}{l:List (Str×kL)}(h:ix B n r C)(hm:r∈rows)(aF:∀p∈l,∃r,r∈rows/\r.name=p.1/\ix B n r p.2):∀p∈(r.name,C)::l,∃r,r∈rows/\r.name=p.1/\ix B n r p.2:=zx ⟨r,hm,rfl,h⟩ aF
theorem cL(h:false=true):∃k,n=k+2:=nomatch h
theorem lY(h:true=true):∃k,n+2=k+2:=⟨n,rfl⟩
theorem Qa:cu B n (bd nx.i).scope.names (bd nx.i).body (GB):=
 cA (cf:={ae:=[58,15,51,78]}) ⟨aQ,aQ,aQ,aQ,cL⟩ (by kernel_rfl)
theorem S2:cu B n (bd qy.i).scope.names (bd qy.i).body (Io):=
 cA (cf:={ae:=[110,58,15,21]}) ⟨aQ,aQ,aQ,aQ,cL⟩ (by kernel_rfl)
theorem TG{sg:aU}(U2:bg B n qQ sg):cu B n (bd qG.i).scope.names (bd qG.i).body (IR sg):=
 cA (cf:={ae:=[110,115,46,80],pc:=[(qQ.name,sg)]}) ⟨(b4 U2 KD aQ),aQ,aQ,aQ,cL⟩ (by kernel_rfl)
theorem U3:cu B n (bd qQ.i).scope.names (bd qQ.i).body (JT):=
 cA (cf:={ae:=[110]}) ⟨aQ,aQ,aQ,aQ,cL⟩ (by kernel_rfl)
theorem RB:cu B n (bd nC.i).scope.names (bd nC.i).body (Hu):=
 cA (cf:={ae:=[58,78,82,72],fN:=[82],fO:=[82],gC:=[82],fP:=[82],dead:=[80]}) ⟨aQ,aQ,aQ,aQ,cL⟩ (by kernel_rfl)
theorem Qx:cu B n (bd ny.i).scope.names (bd ny.i).body (GQ):=
 cA (cf:={ae:=[110]}) ⟨aQ,aQ,aQ,aQ,cL⟩ (by kernel_rfl)
theorem Ug{kO:aU}(AD:bg B n nx kO):cu B n (bd qL.i).scope.names (bd qL.i).body (Jd kO):=
 cA (cf:={ae:=[110,21,19,91],pc:=[(nx.name,kO)]}) ⟨(b4 AD AG aQ),aQ,aQ,aQ,cL⟩ (by kernel_rfl)
theorem Q2{u8:aU}{vs:aU}(S3:bg B n qy u8)(Uh:bg B n qL vs):cu B n (bd p4.i).scope.names (bd p4.i).body (G5 u8 vs):=
 cA (cf:={ae:=[110,19,21,58],pc:=[(qy.name,u8),(qL.name,vs)],dead:=[106]}) ⟨(b4 S3 IJ (b4 Uh JQ aQ)),aQ,aQ,aQ,cL⟩ (by kernel_rfl)
theorem Qy:cu B n (bd pZ.i).scope.names (bd pZ.i).body (GR):=
 cA (cf:={ae:=[101,22]}) ⟨aQ,aQ,aQ,aQ,cL⟩ (by kernel_rfl)
theorem RC{kO:aU}{lz:aU}(AD:bg B n nx kO)(AW:bg B n nC lz):cu B n (bd qf.i).scope.names (bd qf.i).body (Hv kO lz):=
 cA (cf:={ae:=[110,76,58,101],pc:=[(nx.name,kO),(nC.name,lz)],dead:=[125]}) ⟨(b4 AD AG (b4 AW A4 aQ)),aQ,aQ,aQ,cL⟩ (by kernel_rfl)
theorem S4{uG:aU}{uC:aU}(Q3:bg B n p4 uG)(Qz:bg B n pZ uC):cu B n (bd qz.i).scope.names (bd qz.i).body (Ip uG uC):=
 cA (cf:={ae:=[110,19,14,46,92,101,21],pc:=[(p4.name,uG),(pZ.name,uC)]}) ⟨(b4 Q3 Hk (b4 Qz G1 aQ)),aQ,aQ,aQ,cL⟩ (by kernel_rfl)
theorem Q4{u9:aU}(S5:bg B n qz u9):cu B n (bd p5.i).scope.names (bd p5.i).body (G6 u9):=
 cA (cf:={ae:=[114,19,14,46,76,109,56,110,27,87,82],pc:=[(qz.name,u9)],dr:=[(142,[82,110])]}) ⟨(b4 S5 IK aQ),aQ,aQ,aQ,cL⟩ (by kernel_rfl)
theorem Ui{uQ:aU}{lx:aU}(RD:bg B n qf uQ)(AH:bg B n ny lx):cu B n (bd qM.i).scope.names (bd qM.i).body (Je uQ lx):=
 cA (cf:={ae:=[110,29,101],pc:=[(qf.name,uQ),(ny.name,lx)],dead:=[162]}) ⟨(b4 RD HM (b4 AH AJ aQ)),aQ,aQ,aQ,cL⟩ (by kernel_rfl)
theorem QA{uH:aU}{vt:aU}(Q5:bg B n p5 uH)(Uj:bg B n qM vt):cu B n (bd p0.i).scope.names (bd p0.i).body (GU uH vt):=
 cA (cf:={ae:=[114,19,31,29,110],pc:=[(p5.name,uH),(qM.name,vt)]}) ⟨(b4 Q5 Hl (b4 Uj JR aQ)),aQ,aQ,aQ,cL⟩ (by kernel_rfl)
theorem Q6{uD:aU}(QB:bg B n p0 uD):cu B n (bd oI.i).scope.names (bd oI.i).body (G7 uD):=
 cA (cf:={ae:=[110,19],pc:=[(p0.name,uD)]}) ⟨(b4 QB G2 aQ),aQ,aQ,aQ,cL⟩ (by kernel_rfl)
theorem RE{lx:aU}{lz:aU}(AH:bg B n ny lx)(AW:bg B n nC lz):cu B n (bd qg.i).scope.names (bd qg.i).body (AT lx lz):=
 cA (cf:={ae:=[110,101,76,58],pc:=[(ny.name,lx),(nC.name,lz)],dead:=[187]}) ⟨(b4 AH AJ (b4 AW A4 aQ)),aQ,aQ,aQ,cL⟩ (by kernel_rfl)
theorem S6:cu B n (bd qx.i).scope.names (bd qx.i).body (Iq):=
 cA (cf:={ae:=[58]}) ⟨aQ,aQ,aQ,aQ,cL⟩ (by kernel_rfl)
theorem Wd:cu B n (bd qV.i).scope.names (bd qV.i).body (KE):=
 cA (cf:={ae:=[58]}) ⟨aQ,aQ,aQ,aQ,cL⟩ (by kernel_rfl)
theorem TH:cu B (n+2) (bd qH.i).scope.names (bd qH.i).body (IT):=
 cA (cf:={ae:=[36],vec:=true}) ⟨aQ,aQ,aQ,aQ,lY⟩ (by kernel_rfl)
theorem H9:cu B (n+2) (bd iV.i).scope.names (bd iV.i).body (A7):=
 cA (cf:={ae:=[36],vec:=true}) ⟨aQ,aQ,aQ,aQ,lY⟩ (by kernel_rfl)
theorem Uk:cu B n (bd nJ.i).scope.names (bd nJ.i).body (Jf):=
 cA (cf:={ae:=[106,43],dead:=[310]}) ⟨aQ,aQ,aQ,aQ,cL⟩ (by kernel_rfl)
theorem Sw:cu B n (bd nG.i).scope.names (bd nG.i).body (H0):=
 cA (cf:={ae:=[106]}) ⟨aQ,aQ,aQ,aQ,cL⟩ (by kernel_rfl)
theorem JY:cu B n (bd mC.i).scope.names (bd mC.i).body (BV):=
 cA (cf:={ae:=[106]}) ⟨aQ,aQ,aQ,aQ,cL⟩ (by kernel_rfl)
theorem S7:cu B n (bd j8.i).scope.names (bd j8.i).body (Ir):=
 cA (cf:={ae:=[106,60]}) ⟨aQ,aQ,aQ,aQ,cL⟩ (by kernel_rfl)
theorem RF{uI:aU}(Q7:bg B n oI uI):cu B n (bd qh.i).scope.names (bd qh.i).body (x6 uI):=
 cA (cf:={ae:=[43,35],pc:=[(oI.name,uI)]}) ⟨(b4 Q7 AR aQ),aQ,aQ,aQ,cL⟩ (by kernel_rfl)
theorem S8:cu B n (bd qA.i).scope.names (bd qA.i).body (It):=
 cA (cf:={ae:=[102,10]}) ⟨aQ,aQ,aQ,aQ,cL⟩ (by kernel_rfl)
theorem Hi{lA:aU}{gE:aU}{lC:aU}{uR:aU}{e6:aU}{va:aU}(AX:bg B n nD lA)(qw:bg B n j8 gE)(A8:bg B n nG lC)(RG:bg B n qh uR)(nA:bg B n iD e6)(S9:bg B n qA va):cu B n (bd iD.i).scope.names (bd iD.i).body (AO lA gE lC uR e6 va):=
 cA (cf:={ae:=[107,48,102,35],pc:=[(nD.name,lA),(j8.name,gE),(nG.name,lC),(qh.name,uR),(iD.name,e6),(qA.name,va)]}) ⟨(b4 AX A5 (b4 qw vi (b4 A8 Bg (b4 RG HO (b4 nA r4 (b4 S9 IL aQ)))))),aQ,aQ,aQ,cL⟩ (by kernel_rfl)
theorem Iz{vu:aU}{gE:aU}(Ul:bg B n qN vu)(qw:bg B n j8 gE):cu B n (bd my.i).scope.names (bd my.i).body (Bh vu gE):=
 cA (cf:={ae:=[106,20,61,99,84,65],pc:=[(qN.name,vu),(j8.name,gE)],dead:=[346,351,354]}) ⟨(b4 Ul JS (b4 qw vi aQ)),aQ,aQ,aQ,cL⟩ (by kernel_rfl)
theorem Um{gE:aU}(qw:bg B n j8 gE):cu B n (bd qN.i).scope.names (bd qN.i).body (Jg gE):=
 cA (cf:={ae:=[106,20],pc:=[(j8.name,gE)]}) ⟨(b4 qw vi aQ),aQ,aQ,aQ,cL⟩ (by kernel_rfl)
theorem RH{gE:aU}(qw:bg B n j8 gE):cu B n (bd nD.i).scope.names (bd nD.i).body (Hw gE):=
 cA (cf:={ae:=[106,30],pc:=[(j8.name,gE)]}) ⟨(b4 qw vi aQ),aQ,aQ,aQ,cL⟩ (by kernel_rfl)
theorem RJ:cu B n (bd qi.i).scope.names (bd qi.i).body (Hx):=
 cA (cf:={ae:=[43,44],xH:=true}) ⟨aQ,aQ,aQ,aQ,cL⟩ (by kernel_rfl)
theorem Q8{uS:aU}(RK:bg B n qi uS):cu B n (bd p6.i).scope.names (bd p6.i).body (G8 uS):=
 cA (cf:={ae:=[44,61,57,43],pc:=[(qi.name,uS)],dr:=[(385,[43])]}) ⟨(b4 RK HP aQ),aQ,aQ,aQ,cL⟩ (by kernel_rfl)
theorem Sx{vb:aU}(Ta:bg B n qx vb):cu B n (bd qs.i).scope.names (bd qs.i).body (H1 vb):=
 cA (cf:={ae:=[43,35,62],pc:=[(qx.name,vb)],dead:=[433]}) ⟨(b4 Ta II aQ),aQ,aQ,aQ,cL⟩ (by kernel_rfl)
theorem TI{ut:aU}{u2:aU}(PV:bg B n pR ut)(Sy:bg B n qs u2):cu B n (bd qI.i).scope.names (bd qI.i).body (IU ut u2):=
 cA (cf:={ae:=[43,35,103,62],pc:=[(pR.name,ut),(qs.name,u2)],dead:=[447,449,451,453,456]}) ⟨(b4 PV Gx (b4 Sy Ij aQ)),aQ,aQ,aQ,cL⟩ (by kernel_rfl)
theorem PW:cu B n (bd pR.i).scope.names (bd pR.i).body (Gs):=
 cA (cf:={ae:=[43]}) ⟨aQ,aQ,aQ,aQ,cL⟩ (by kernel_rfl)
theorem RL{e7:aU}{lI:aU}(nF:bg B n iV e7)(BW:bg B n mC lI):cu B n (bd qj.i).scope.names (bd qj.i).body (Hy e7 lI):=
 cA (cf:={ae:=[106,61],pc:=[(iV.name,e7),(mC.name,lI)]}) ⟨(b4 nF r8 (b4 BW Ck aQ)),aQ,aQ,aQ,cL⟩ (by kernel_rfl)
theorem TJ{vj:aU}{lE:aU}{uT:aU}(TK:bg B (n+2) qI vj)(Bi:bg B (n+2) my lE)(RM:bg B (n+2) qj uT):cu B (n+2) (bd nI.i).scope.names (bd nI.i).body (IV vj lE uT):=
 cA (cf:={ae:=[106,43,62,36,35],pc:=[(qI.name,vj),(my.name,lE),(qj.name,uT)],dead:=[487],vec:=true}) ⟨(b4 TK Jb (b4 Bi Bn (b4 RM HQ aQ))),aQ,aQ,aQ,lY⟩ (by kernel_rfl)
theorem RN:cu B n (bd qk.i).scope.names (bd qk.i).body (AU):=
 cA (cf:={ae:=[43,35]}) ⟨aQ,aQ,aQ,aQ,cL⟩ (by kernel_rfl)
theorem Qb{vk:aU}(TL:bg B n qG vk):cu B n (bd pV.i).scope.names (bd pV.i).body (GC vk):=
 cA (cf:={ae:=[43,1,6],pc:=[(qG.name,vk)]}) ⟨(b4 TL I9 aQ),aQ,aQ,aQ,cL⟩ (by kernel_rfl)
theorem PX:cu B n (bd pS.i).scope.names (bd pS.i).body (Gu):=
 cA (cf:={ae:=[106]}) ⟨aQ,aQ,aQ,aQ,cL⟩ (by kernel_rfl)
theorem PY{uy:aU}{r5:aU}(Qc:bg B n pV uy)(RO:bg B n qk r5):cu B n (bd pT.i).scope.names (bd pT.i).body (Gv uy r5):=
 cA (cf:={ae:=[106,34,37,16,59,46,80,47,81,79],pc:=[(pV.name,uy),(qk.name,r5)]}) ⟨(b4 Qc GL (b4 RO HR aQ)),aQ,aQ,aQ,cL⟩ (by kernel_rfl)
theorem QC{uv:aU}(PZ:bg B n pT uv):cu B n (bd p1.i).scope.names (bd p1.i).body (GV uv):=
 cA (cf:={ae:=[108,34,37,16,59,63,79],pc:=[(pT.name,uv)],dr:=[(522,[63,79])]}) ⟨(b4 PZ Gz aQ),aQ,aQ,aQ,cL⟩ (by kernel_rfl)
theorem RP{uE:aU}(QD:bg B n p1 uE):cu B n (bd ql.i).scope.names (bd ql.i).body (Hz uE):=
 cA (cf:={ae:=[46,80,108,16,59,54,34,37],pc:=[(p1.name,uE)],fN:=[54],fO:=[54],gC:=[54],fP:=[54],ww:=true}) ⟨(b4 QD G3 aQ),aQ,aQ,aQ,cL⟩ (by kernel_rfl)
theorem RQ{uU:aU}(RT:bg B n ql uU):cu B n (bd qm.i).scope.names (bd qm.i).body (HA uU):=
 cA (cf:={ae:=[76,108,16,59,85,50,4,75],pc:=[(ql.name,uU)],fN:=[50],fO:=[50],gC:=[50],fP:=[50],dr:=[(543,[50]),(545,[4])],ww:=true}) ⟨(b4 RT HS aQ),aQ,aQ,aQ,cL⟩ (by kernel_rfl)
theorem Tb:cu B n (bd qB.i).scope.names (bd qB.i).body (Iu):=
 cA (cf:={ae:=[16,14,63],dead:=[553]}) ⟨aQ,aQ,aQ,aQ,cL⟩ (by kernel_rfl)
theorem Q9{kR:aU}(BE:bg B n nJ kR):cu B n (bd p7.i).scope.names (bd p7.i).body (G9 kR):=
 cA (cf:={ae:=[108,59,76,75,39,106],pc:=[(nJ.name,kR)],fN:=[76],fO:=[76],gC:=[76],fP:=[76],dr:=[(557,[39,75])],dead:=[560]}) ⟨(b4 BE BU aQ),aQ,aQ,aQ,cL⟩ (by kernel_rfl)
theorem Tc{uw:aU}{vd:aU}{uJ:aU}{kR:aU}{uV:aU}(P0:bg B n pS uw)(Td:bg B n qB vd)(Ra:bg B n p7 uJ)(BE:bg B n nJ kR)(RU:bg B n qm uV):cu B n (bd qC.i).scope.names (bd qC.i).body (Iv uw vd uJ kR uV):=
 cA (cf:={ae:=[108,16,59,106,28],pc:=[(pS.name,uw),(qB.name,vd),(p7.name,uJ),(nJ.name,kR),(qm.name,uV)],dr:=[(569,[106])]}) ⟨(b4 P0 Gy (b4 Td IM (b4 Ra Hn (b4 BE BU (b4 RU HU aQ))))),aQ,aQ,aQ,cL⟩ (by kernel_rfl)
theorem Sz{lA:aU}{lC:aU}(AX:bg B n nD lA)(A8:bg B n nG lC):cu B n (bd j7.i).scope.names (bd j7.i).body (H2 lA lC):=
 cA (cf:={ae:=[106],pc:=[(nD.name,lA),(nG.name,lC)]}) ⟨(b4 AX A5 (b4 A8 Bg aQ)),aQ,aQ,aQ,cL⟩ (by kernel_rfl)
theorem SA{e7:aU}{lI:aU}(nF:bg B (n+2) iV e7)(BW:bg B (n+2) mC lI):cu B (n+2) (bd qt.i).scope.names (bd qt.i).body (H3 e7 lI):=
 cA (cf:={ae:=[13,61,83,52,12],pc:=[(iV.name,e7),(mC.name,lI)],fN:=[52],fO:=[52],gC:=[52],fP:=[52],vec:=true}) ⟨(b4 nF r8 (b4 BW Ck aQ)),aQ,aQ,aQ,lY⟩ (by kernel_rfl)
theorem RV{vl:aU}(TN:bg B n qH vl):cu B n (bd qn.i).scope.names (bd qn.i).body (HB vl):=
 cA (cf:={ae:=[14],pc:=[(qH.name,vl)]}) ⟨(b4 TN Ja aQ),aQ,aQ,aQ,cL⟩ (by kernel_rfl)
theorem RW:cu B n (bd qo.i).scope.names (bd qo.i).body (HC):=
 cA (cf:={ae:=[17]}) ⟨aQ,aQ,aQ,aQ,cL⟩ (by kernel_rfl)
theorem QE{lE:aU}(Bi:bg B n my lE):cu B n (bd nz.i).scope.names (bd nz.i).body (GW lE):=
 cA (cf:={ae:=[17,61,60],pc:=[(my.name,lE)]}) ⟨(b4 Bi Bn aQ),aQ,aQ,aQ,cL⟩ (by kernel_rfl)
theorem HI:cu B n (bd kQ.i).scope.names (bd kQ.i).body (AV):=
 cA (cf:={ae:=[12,40,60],fN:=[40],fO:=[40],gC:=[40],fP:=[40],dr:=[(595,[60])],Pr:=true}) ⟨aQ,aQ,aQ,aQ,cL⟩ (by kernel_rfl)
theorem TP:cu B n (bd qJ.i).scope.names (bd qJ.i).body (IW):=
 cA (cf:={ae:=[43],dead:=[601]}) ⟨aQ,aQ,aQ,aQ,cL⟩ (by kernel_rfl)
theorem RX{lB:aU}{vm:aU}(AY:bg B (n+2) kQ lB)(TQ:bg B (n+2) qJ vm):cu B (n+2) (bd nE.i).scope.names (bd nE.i).body (HD lB vm):=
 cA (cf:={ae:=[12,76,36,14,75],pc:=[(kQ.name,lB),(qJ.name,vm)],fN:=[36],fO:=[36],gC:=[36],fP:=[36],dr:=[(606,[75])],vec:=true}) ⟨(b4 AY x8 (b4 TQ Jc aQ)),aQ,aQ,aQ,lY⟩ (by kernel_rfl)
theorem Qd{e7:aU}{gk:aU}{uW:lq}{e6:aU}(nF:bg B (n+2) iV e7)(qq:bg B (n+2) j7 gk)(RY:i2 B (n+2) kQ uW)(nA:bg B (n+2) iD e6):cu B (n+2) (bd pW.i).scope.names (bd pW.i).body (GD e7 gk uW e6):=
 cA (cf:={ae:=[73,48,45,72,11,5,102,65],pc:=[(iV.name,e7),(j7.name,gk),(iD.name,e6)],uk:=[(kQ.name,uW)],fN:=[5,11,48],fO:=[5,11,45,48],gC:=[5,11,45,48],fP:=[5,11,45,48],dr:=[(616,[72,102]),(618,[65]),(623,[72]),(624,[65])],vec:=true}) ⟨(b4 nF r8 (b4 qq u7 (b4 nA r4 aQ))),(M5 RY x8 aQ),aQ,aQ,lY⟩ (by kernel_rfl)
theorem Qe{lG:aU}{e7:aU}{uK:aU}{gk:aU}{uz:aU}{lB:aU}{e6:aU}(Bp:bg B (n+2) nI lG)(nF:bg B (n+2) iV e7)(Rb:bg B (n+2) p6 uK)(qq:bg B (n+2) j7 gk)(Qf:bg B (n+2) pW uz)(AY:bg B (n+2) kQ lB)(nA:bg B (n+2) iD e6):cu B (n+2) (bd pX.i).scope.names (bd pX.i).body (GF lG e7 uK gk uz lB e6):=
 cA (cf:={ae:=[73,77,72,43,36],pc:=[(nI.name,lG),(iV.name,e7),(p6.name,uK),(j7.name,gk),(pW.name,uz),(kQ.name,lB),(iD.name,e6)],fN:=[36,77],fO:=[36,77],gC:=[36,77],fP:=[36,77],dr:=[(633,[72]),(637,[72])],dead:=[641],vec:=true}) ⟨(b4 Bp BD (b4 nF r8 (b4 Rb Hm (b4 qq u7 (b4 Qf GM (b4 AY x8 (b4 nA r4 aQ))))))),aQ,aQ,aQ,lY⟩ (by kernel_rfl)
theorem Rc{lG:aU}{uX:aU}{gk:aU}{e6:aU}(Bp:bg B n nI lG)(RZ:bg B n qg uX)(qq:bg B n j7 gk)(nA:bg B n iD e6):cu B n (bd p8.i).scope.names (bd p8.i).body (Ha lG uX gk e6):=
 cA (cf:={ae:=[12,64,65],pc:=[(nI.name,lG),(qg.name,uX),(j7.name,gk),(iD.name,e6)]}) ⟨(b4 Bp BD (b4 RZ HN (b4 qq u7 (b4 nA r4 aQ)))),aQ,aQ,aQ,cL⟩ (by kernel_rfl)
theorem Te{uL:aU}(Rd:bg B n p8 uL):cu B n (bd qD.i).scope.names (bd qD.i).body (Iw uL):=
 cA (cf:={ae:=[13,84,73,30,75,12,72],pc:=[(p8.name,uL)],fN:=[30],fO:=[30],gC:=[30],fP:=[30],dr:=[(656,[75])]}) ⟨(b4 Rd Ho aQ),aQ,aQ,aQ,cL⟩ (by kernel_rfl)
theorem Tf{kP:aU}(AI:bg B n nz kP):cu B n (bd oP.i).scope.names (bd oP.i).body (Ix kP):=
 cA (cf:={ae:=[17,7,61,76,60],pc:=[(nz.name,kP)],fN:=[76],fO:=[76],gC:=[76],fP:=[76],dr:=[(662,[60])]}) ⟨(b4 AI x5 aQ),aQ,aQ,aQ,cL⟩ (by kernel_rfl)
theorem Qg:cu B n (bd pY.i).scope.names (bd pY.i).body (GH):=
 cA (cf:={ae:=[111,116,98,75,71,68],fN:=[71,98],fO:=[71,98],gC:=[71,98],fP:=[71,98],mu:=[98],dr:=[(669,[75]),(672,[75]),(673,[68])]}) ⟨aQ,aQ,aQ,aQ,cL⟩ (by kernel_rfl)
theorem Re:cu B n (bd p9.i).scope.names (bd p9.i).body (Hb):=
 cA (cf:={ae:=[42,69,45,41,75],fN:=[45],fO:=[45],gC:=[45],fP:=[45],dr:=[(678,[41])]}) ⟨aQ,aQ,aQ,aQ,cL⟩ (by kernel_rfl)
theorem SC{vF:aU}(We:bg B n qV vF):cu B n (bd qu.i).scope.names (bd qu.i).body (H4 vF):=
 cA (cf:={ae:=[26,89,71,68,75],pc:=[(qV.name,vF)],fN:=[71],fO:=[71],gC:=[71],fP:=[71],dr:=[(684,[68]),(685,[75])]}) ⟨(b4 We Lq aQ),aQ,aQ,aQ,cL⟩ (by kernel_rfl)
theorem QF{r0:aU}{uA:lq}(Rf:bg B n p9 r0)(Qh:i2 B n pY uA):cu B n (bd p2.i).scope.names (bd p2.i).body (GX r0 uA):=
 cA (cf:={ae:=[111,116,2,3,71,75],pc:=[(p9.name,r0)],uk:=[(pY.name,uA)],fN:=[71],fO:=[71],gC:=[71],fP:=[71],dr:=[(691,[75]),(694,[75])]}) ⟨(b4 Rf Hp aQ),(M5 Qh GO aQ),aQ,aQ,cL⟩ (by kernel_rfl)
theorem R0{uB:aU}{j6:aU}(Qi:bg B n pX uB)(AZ:bg B n nE j6):cu B n (bd qp.i).scope.names (bd qp.i).body (HE uB j6):=
 cA (cf:={ae:=[110,115,71,38,14,76,75,68],pc:=[(pX.name,uB),(nE.name,j6)],fN:=[76],fO:=[76],gC:=[76],fP:=[76],dr:=[(701,[68,75])]}) ⟨(b4 Qi GN (b4 AZ A6 aQ)),aQ,aQ,aQ,cL⟩ (by kernel_rfl)
theorem Rg:cu B n (bd qa.i).scope.names (bd qa.i).body (Hc):=
 cA (cf:={ae:=[61,69,7,96,30,60],fN:=[30],fO:=[30],gC:=[30],fP:=[30],dr:=[(706,[60])]}) ⟨aQ,aQ,aQ,aQ,cL⟩ (by kernel_rfl)
theorem Tg:cu B (n+2) (bd qE.i).scope.names (bd qE.i).body (Iy):=
 cA (cf:={ae:=[12],vec:=true}) ⟨aQ,aQ,aQ,aQ,lY⟩ (by kernel_rfl)
theorem Rh{e7:aU}{gk:aU}{e6:aU}{ve:aU}(nF:bg B n iV e7)(qq:bg B n j7 gk)(nA:bg B n iD e6)(Th:bg B n qE ve):cu B n (bd qb.i).scope.names (bd qb.i).body (Hd e7 gk e6 ve):=
 cA (cf:={ae:=[13,8,84,102,75,73,12,82,72],pc:=[(iV.name,e7),(j7.name,gk),(iD.name,e6),(qE.name,ve)],fN:=[84],fO:=[84],gC:=[84],fP:=[84],dr:=[(719,[73,75])]}) ⟨(b4 nF r8 (b4 qq u7 (b4 nA r4 (b4 Th IQ aQ)))),aQ,aQ,aQ,cL⟩ (by kernel_rfl)
theorem QG{u3:aU}{r9:aU}{kP:aU}{oK:aU}{uY:aU}{uM:aU}{uF:aU}{u4:aU}{vf:aU}{r1:aU}{j6:aU}{uZ:aU}{sa:aU}(SD:bg B n qu u3)(Ti:bg B n oP r9)(AI:bg B n nz kP)(R1:bg B n qo oK)(R2:bg B n qp uY)(Ri:bg B n qb uM)(QH:bg B n p2 uF)(SE:bg B n qt u4)(Tj:bg B n qC vf)(Rj:bg B n qa r1)(AZ:bg B n nE j6)(R3:bg B n qn uZ)(Tk:bg B n qD sa):cu B n (bd ly.i).scope.names (bd ly.i).body (GY u3 r9 kP oK uY uM uF u4 vf r1 j6 uZ sa):=
 cA (cf:={ae:=[110,115,7,2,3,97,67,113,118,13,95,112,117,75,61,71,111,116,66,12,70],pc:=[(qu.name,u3),(oP.name,r9),(nz.name,kP),(qo.name,oK),(qp.name,uY),(qb.name,uM),(p2.name,uF),(qt.name,u4),(qC.name,vf),(qa.name,r1),(nE.name,j6),(qn.name,uZ),(qD.name,sa)],fN:=[13],fO:=[13],gC:=[13],fP:=[13],dr:=[(733,[95]),(741,[75]),(744,[75])]}) ⟨(b4 SD Il (b4 Ti Bo (b4 AI x5 (b4 R1 HW (b4 R2 HX (b4 Ri Hr (b4 QH G4 (b4 SE Ik (b4 Tj IO (b4 Rj Hq (b4 AZ A6 (b4 R3 HV (b4 Tk IP aQ))))))))))))),aQ,aQ,aQ,cL⟩ (by kernel_rfl)
theorem SF:cu B n (bd lD.i).scope.names (bd lD.i).body (H5):=
 cA (cf:={ae:=[33,49,18,25],fN:=[33],fO:=[33],fP:=[33]}) ⟨aQ,aQ,aQ,aQ,cL⟩ (by kernel_rfl)
theorem Rk{gD:kL}(r6:ix B (n+2) lD gD):cu B (n+2) (bd oJ.i).scope.names (bd oJ.i).body (He gD):=
 cA (cf:={ae:=[33,43,53,74,48,106,0,65],bb:=[(lD.name,gD)],fN:=[33,106],fO:=[33,106],fP:=[33,106],vec:=true}) ⟨aQ,aQ,(Ek r6 ya aQ),aQ,lY⟩ (by kernel_rfl)
theorem Qj:cu B (n+2) (bd oH.i).scope.names (bd oH.i).body (GI):=
 cA (cf:={ae:=[13,61,84,17],fN:=[17],fO:=[17],gC:=[17],fP:=[17],vec:=true}) ⟨aQ,aQ,aQ,aQ,lY⟩ (by kernel_rfl)
theorem P1:cu B n (bd pU.i).scope.names (bd pU.i).body (Gw):=
 cA (cf:={ae:=[106]}) ⟨aQ,aQ,aQ,aQ,cL⟩ (by kernel_rfl)
theorem R4{ux:aU}(P2:bg B n pU ux):cu B n (bd oL.i).scope.names (bd oL.i).body (HF ux):=
 cA (cf:={ae:=[106,35],pc:=[(pU.name,ux)]}) ⟨(b4 P2 GA aQ),aQ,aQ,aQ,cL⟩ (by kernel_rfl)
theorem R5:cu B n (bd oM.i).scope.names (bd oM.i).body (HG):=
 cA (cf:={ae:=[35]}) ⟨aQ,aQ,aQ,aQ,cL⟩ (by kernel_rfl)
theorem SG:cu B n (bd qv.i).scope.names (bd qv.i).body (H6):=
 cA (cf:={ae:=[65,105]}) ⟨aQ,aQ,aQ,aQ,cL⟩ (by kernel_rfl)
theorem Rl{l9:Nat->List D->List D->(D->Prop)->Prop}(eg:∀j,jz B n j (l9 j)){uN:aU}(Rm:bg B n qc uN):cu B n (bd nB.i).scope.names (bd nB.i).body (Hf l9 uN):=
 cA (cf:={ae:=[84,42,30,82,4],pc:=[(qc.name,uN)],xV:=[("keys",l9)],fN:=[30],fO:=[30],gC:=[30],fP:=[30],dr:=[(794,[4,82])],ww:=true}) ⟨(b4 Rm Ht aQ),aQ,aQ,(zx eg aQ),cL⟩ (by kernel_rfl)
theorem Rn{u5:aU}(SH:bg B n qv u5):cu B n (bd qc.i).scope.names (bd qc.i).body (Hg u5):=
 cA (cf:={ae:=[65,105,94],pc:=[(qv.name,u5)],dr:=[(801,[94])]}) ⟨(b4 SH Im aQ),aQ,aQ,aQ,cL⟩ (by kernel_rfl)
theorem aew:bI B n (cP 0).scope.names (cP 0).body D8:=
 (show (oE {ae:=[82,4,109,24,48]} 12).1 (cP 0).scope.names (cP 0).body=D8 by kernel_rfl)▸(lO (cf:={ae:=[82,4,109,24,48]}) ⟨aQ,aQ,aQ,aQ,cL⟩ 12).1 _ _
theorem aex:bI B n (cP 1).scope.names (cP 1).body D9:=
 (show (oE {ae:=[82]} 12).1 (cP 1).scope.names (cP 1).body=D9 by kernel_rfl)▸(lO (cf:={ae:=[82]}) ⟨aQ,aQ,aQ,aQ,cL⟩ 12).1 _ _
theorem aey:bI B n (cP 2).scope.names (cP 2).body Ea:=
 (show (oE {ae:=[82,65]} 12).1 (cP 2).scope.names (cP 2).body=Ea by kernel_rfl)▸(lO (cf:={ae:=[82,65]}) ⟨aQ,aQ,aQ,aQ,cL⟩ 12).1 _ _
end
section
variable {w:World} {B:bC w} {n:Nat} {env:Env} {ρ:aO} {g:G} {sc:List (Str×NameKind)}
noncomputable abbrev tX:=(bd gJ.i).scope.names
noncomputable def fg(i:Nat):Stmt:=(bd gJ.i).body.getD i (.Pass default)
noncomputable def v7:cj:=aj (ak (ag 32) (au (.int 0)) (f2 item)) (aj (ak (ag 32) (au (.int 1)) (f2 item)) (aj (ak (ag 7) (eList (aj (au (.str "z")) az)) (f2 c7)) (aj (ak (ag 39) (au (.int 0)) (f2 item)) (aj (ak (ag 39) (au (.int 1)) (f2 item)) (aj (eList (aj (au (.str ".x")) (aj (au (.str ".y")) az))) az)))))
theorem aez{gD:kL}(r6:ix B (n+2) lD gD){hI:List D->Prop}(rS:mb B (n+2) ly hI){A:Around}(ok:cS tX env)(eg:yU A env):tS B (n+2) A env (fg 13) (bF (bl (gG 33 gD (aj (au (.int 12)) az)) (au (.int 11)) (a6 ck)) (ay (sN v7 hI) aJ) aJ):=
 abV ok (nU (Kv ya r6 rfl rfl rfl (ej e8 fm) rfl rfl) e8 wo) (gH (Yd ok eg AK rS rfl (ej (eM (cZ rfl rfl) e8) (ej (eM (cZ rfl rfl) e8) (ej (LY (cZ rfl rfl) (CA (ej q1 fm)) Lk) (ej (eM (cZ rfl rfl) e8) (ej (eM (cZ rfl rfl) e8) (ej (CA (ej q1 (ej q1 fm))) fm)))))) rfl rfl rfl rfl) (SB.tT ok gp)) (SB.tT ok gp)
theorem aeA{j5:aU}(r2:bg B (n+2) nB j5):dp B (n+2) tX (fg 17) (bF (bl (ag 109) (au (.int 0)) (a6 ck)) (ay (mH 84 105 [65] (aT cF (aj (ak (ag 100) (au (.int 1)) (f2 item)) az)) cg (o6 65 (aT cF (aj (ak (ag 100) (au (.int 0)) (f2 item)) az)) cg (cy (dN (aj (ag 65) (aj (ag 105) (aj (dN az) az))))))) aJ) (ay (mH 84 65 [105] (aT cF (aj (ak (ag 100) (au (.int 0)) (f2 item)) az)) cg (o6 105 (aT cF (aj (ak (ag 100) (au (.int 1)) (f2 item)) az)) (bl (ak (ak (ag 42) (au (.int 0)) (f2 item)) (ag 65) (f2 item)) (ak (ak (ag 42) (au (.int 1)) (f2 item)) (ag 105) (f2 item)) (a6 ck)) (cy (dN (aj (ag 65) (aj (ag 105) (aj (ak (ak (ag 42) (au (.int 0)) (f2 item)) (ag 65) (f2 item)) az))))))) (ay (bF (dy (ak (ag 39) (au (.int 0)) (f2 item))) (ay (lQ 84 (cE 65 [] (aT cF (aj (ak (ag 100) (au (.int 0)) (f2 item)) az)) (bl (ak (ak (ag 42) (au (.int 0)) (f2 item)) (ag 65) (f2 item)) (ak (ag 42) (au (.int 1)) (f2 item)) (a6 ip)) (cy (dN (aj (ag 65) (aj (au .none) (aj (ak (ak (ag 42) (au (.int 0)) (f2 item)) (ag 65) (f2 item)) az))))))) aJ) aJ) (ay (bF (dy (ak (ag 39) (au (.int 1)) (f2 item))) (ay (lQ 84 (cE 105 [] (aT cF (aj (ak (ag 100) (au (.int 1)) (f2 item)) az)) (bl (ak (ak (ag 42) (au (.int 1)) (f2 item)) (ag 105) (f2 item)) (ak (ag 42) (au (.int 0)) (f2 item)) (a6 ip)) (cy (dN (aj (au .none) (aj (ag 105) (aj (ak (ak (ag 42) (au (.int 1)) (f2 item)) (ag 105) (f2 item)) az))))))) aJ) aJ) (ay (dV 48 (eH az)) (ay (dF 4 [4,82] (aT cF (aj (ag 109) az)) (ay (dV 82 (eH az)) (ay (dF 92 [92] (aT cF (aj (au (.int 2)) az)) (ay (bF (dy (ak (ag 24) (ag 4) (f2 item))) (ay (lQ 82 (cE 65 [] (aD (ak (aD (ak (ak (ag 93) (ag 92) (f2 item)) (ag 4) (f2 item)) gF) (au (.str "levels")) (f2 item)) dD) (o7 true (ag 65) 82) (cy (ag 65)))) aJ) aJ) aJ)) (ay (dG (dS 48 (aj (ag 82) az) (dd d9))) aJ)))) (ay (bF (ew (dy (ak (ag 39) (au (.int 0)) (f2 item))) (ew (dy (ak (ag 39) (au (.int 1)) (f2 item))) h3)) (ay (lW 24 (lW 48 (lW 109 (mB 84 84 0 [24,48,109] j5)))) aJ) (ay (bF (bl (ag 109) (au (.int 1)) (a6 ck)) (ay (mB 84 84 1 [] j5) aJ) (ay (mB 84 84 2 [] j5) aJ)) aJ)) aJ))))))):=
 (o5 (nU (cZ rfl rfl) e8 wo) (fI (Bx rfl rfl (oi nL (ej (eM (cZ rfl rfl) e8) fm) rfl) (.inl ⟨rfl,rfl⟩) (fun Z Z Z ok=>(BJ ok rfl rfl (by intro Z h;simp at h;try subst h;rfl) rfl (by decide) (.tail _ (.head _)) (oi nL (ej (eM (cZ rfl rfl) e8) fm) rfl) (.inl ⟨rfl,rfl⟩) (sd ok (sI (ej (cZ rfl rfl) (ej (cZ rfl rfl) (ej (sI fm) fm)))) rfl) (by intro Z;rfl))) rfl rfl rfl rfl).2 gp) (fI (Bx rfl rfl (oi nL (ej (eM (cZ rfl rfl) e8) fm) rfl) (.inl ⟨rfl,rfl⟩) (fun Z Z Z ok=>(BJ ok rfl rfl (by intro Z h;simp at h;try subst h;rfl) rfl (by decide) (.tail _ (.head _)) (oi nL (ej (eM (cZ rfl rfl) e8) fm) rfl) (.inr ⟨_,rfl,(nU (eM (eM (cZ rfl rfl) e8) (cZ rfl rfl)) (eM (eM (cZ rfl rfl) e8) (cZ rfl rfl)) wo)⟩) (sd ok (sI (ej (cZ rfl rfl) (ej (cZ rfl rfl) (ej (eM (eM (cZ rfl rfl) e8) (cZ rfl rfl)) fm)))) rfl) (by intro Z;rfl))) rfl rfl rfl rfl).2 (fI (o5 (sH (eM (cZ rfl rfl) e8)) (fI (yS (yL rfl rfl (oi nL (ej (eM (cZ rfl rfl) e8) fm) rfl) (.inr ⟨_,rfl,(nU (eM (eM (cZ rfl rfl) e8) (cZ rfl rfl)) (eM (cZ rfl rfl) e8) Dm)⟩) (fun Z Z Z ok=>(sd ok (sI (ej (cZ rfl rfl) (ej Cz (ej (eM (eM (cZ rfl rfl) e8) (cZ rfl rfl)) fm)))) rfl))) rfl rfl rfl) gp) gp) (fI (o5 (sH (eM (cZ rfl rfl) e8)) (fI (yS (yL rfl rfl (oi nL (ej (eM (cZ rfl rfl) e8) fm) rfl) (.inr ⟨_,rfl,(nU (eM (eM (cZ rfl rfl) e8) (cZ rfl rfl)) (eM (cZ rfl rfl) e8) Dm)⟩) (fun Z Z Z ok=>(sd ok (sI (ej Cz (ej (cZ rfl rfl) (ej (eM (eM (cZ rfl rfl) e8) (cZ rfl rfl)) fm)))) rfl))) rfl rfl rfl) gp) gp) (fI (yN (yP fm) rfl rfl) (fI (Dc (oi nL (ej (cZ rfl rfl) fm) rfl) (fI (yN (yP fm) rfl rfl) (fI (Dc (oi nL (ej e8 fm) rfl) (fI (o5 (sH (eM (cZ rfl rfl) (cZ rfl rfl))) (fI (yS (yL rfl rfl (CC (eM (CC (eM (eM (cZ rfl rfl) (cZ rfl rfl)) (cZ rfl rfl)) Kr) q1) Kq) (.inr ⟨_,rfl,(Dq (neg:=true) (cZ rfl rfl) rfl rfl)⟩) (fun Z Z Z ok=>(sd ok (cZ rfl rfl) rfl))) rfl rfl rfl) gp) gp) gp) rfl rfl) (fI (D0 (Dj rfl rfl (ej (cZ rfl rfl) fm) BO)) gp))) rfl rfl) (fI (o5 (ML (DY (sH (eM (cZ rfl rfl) e8)) (DY (sH (eM (cZ rfl rfl) e8)) LZ))) (fI (Dz (Dz (Dz (BQ (j:=0) (xs:=[24,48,109]) uP r2 rfl rfl rfl rfl (by decide) rfl rfl rfl rfl rfl rfl)))) gp) (fI (o5 (nU (cZ rfl rfl) e8 wo) (fI (BQ (j:=1) (xs:=[]) uP r2 rfl rfl rfl rfl (by decide) rfl rfl rfl rfl rfl rfl) gp) (fI (BQ (j:=2) (xs:=[]) uP r2 rfl rfl rfl rfl (by decide) rfl rfl rfl rfl rfl rfl) gp)) gp)) gp)))))))
noncomputable def Cl(ahn:bh)(r3:kL)(rY:aU)(gD:kL)(qd:aU)(j5:aU)(qe:aU)(rZ:aU):bh:=(ay (dV 33 (eH (aj (ag 9) (aj (au (.int 0)) (aj (au (.int 0)) (aj (ak (ak (aT (a8 sX) (aj (ag 9) az)) (au (.int 100003)) (f2 jE)) (au (.int 7)) (f2 fU)) az)))))) (ay (bM 100 (eList (aj (gG 33 gD (aj (au (.int 5)) az)) (aj (gG 33 gD (aj (au (.int 5)) az)) az)))) (ay (bM 109 (ak (eList (aj (au (.int 1)) (aj (au (.int 1)) (aj (au (.int 2)) (aj (au (.int 0)) az))))) (gG 33 gD (aj (au (.int 4)) az)) (f2 item))) (ay (dV 93 (vU 2)) (ay (dV 24 (eH az)) (ay (dF 4 [4,44] (aT cF (aj (ag 109) az)) (ay (bM 44 (ak (eList (aj (dN (aj (au (.str "integer")) (aj (au (.str "integer")) az))) (aj (dN (aj (au (.str "character")) (aj (au (.str "character")) az))) (aj (dN (aj (au (.str "factor")) (aj (au (.str "factor")) az))) (aj (dN (aj (au (.str "integer")) (aj (au (.str "double")) az))) az))))) (gG 33 gD (aj (au (.int 4)) az)) (f2 item))) (ay (dF 92 [92] (aT cF (aj (au (.int 2)) az)) (ay (dG (sA 93 (ag 92) (gG 33 r3 (aj (ak (ag 44) (ag 92) (f2 item)) (aj (ak (ag 100) (ag 92) (f2 item)) az))))) aJ)) (ay (dG (dS 24 (aj (ak (ak (ag 44) (au (.int 0)) (f2 item)) (au (.str "factor")) (d7 (a6 ck))) az) (dd d9))) aJ)))) (ay (bM 86 (ak (gG 33 gD (aj (au (.int 2)) az)) (au (.int 0)) (d7 (a6 ck)))) (ay (bM 61 (eList (aj (ak (kT (fun ρ k=>(eList (aj (au (.str "k")) (aj (au (.str "l")) az))) ρ fun a aY=>dO (!ju a) (k a aY)) (ag 109)) (eList (aj (au (.str "a")) az)) (f2 c7)) (aj (ak (kT (fun ρ k=>(eList (aj (au (.str "k")) (aj (au (.str "l")) az))) ρ fun a aY=>dO (!ju a) (k a aY)) (ag 109)) (dK (dy (ag 86)) (eList (aj (au (.str "a")) az)) (eList (aj (au (.str "b")) az))) (f2 c7)) az)))) (ay (dF 92 [92] (aT cF (aj (au (.int 2)) az)) (ay (dG (sA 93 (ag 92) (hC (aj (au (.str "integer")) (aj (cE 82 [] (aT cF (aj (ak (ag 100) (ag 92) (f2 item)) az)) cg (cy (ak (ak (au (.int 10)) (ak (ag 92) (au (.int 1)) (f2 c7)) (f2 fU)) (ag 82) (f2 c7)))) az))))) aJ)) (ay (bM 32 (cE 92 [] (aT cF (aj (au (.int 2)) az)) cg (cy (aT rY (aj (ak (ag 93) (ag 92) (f2 item)) (aj (ak (ag 61) (ag 92) (f2 item)) (aj (hC (aj (au (.str "integer")) (aj (aT (a8 hp) (aj (aT cF (aj (au (.int 1)) (aj (ak (ak (ag 100) (ag 92) (f2 item)) (au (.int 1)) (f2 c7)) az))) az)) az))) az))))))) (ay (bM 39 (eList (aj (ak (gG 33 gD (aj (au (.int 2)) az)) (au (.int 1)) (d7 (a6 ck))) (aj (ak (gG 33 gD (aj (au (.int 2)) az)) (au (.int 1)) (d7 (a6 ck))) az)))) (ay (bM 7 (kT (fun ρ k=>(eList (aj (au (.str "k")) (aj (au (.str "l")) az))) ρ fun a aY=>dO (!ju a) (k a aY)) (ag 109))) (ay (bF (bl (gG 33 gD (aj (au (.int 12)) az)) (au (.int 11)) (a6 ck)) (ay ahn aJ) aJ) (ay (bM 104 (aT rZ (aj (ak (ag 32) (au (.int 0)) (f2 item)) (aj (ak (ag 32) (au (.int 1)) (f2 item)) (aj (ag 7) (aj (ak (ag 39) (au (.int 0)) (f2 item)) (aj (ak (ag 39) (au (.int 1)) (f2 item)) (aj (eList (aj (au (.str ".x")) (aj (au (.str ".y")) az))) az)))))))) (ay (bM 102 (cE 92 [] (aT cF (aj (au (.int 2)) az)) cg (cy (cE 4 [] (aT cF (aj (ag 109) az)) cg (cy (cE 35 [] (aT qe (aj (ak (ak (ag 93) (ag 92) (f2 item)) (ag 4) (f2 item)) az)) cg (cy (aT qd (aj (ag 35) az))))))))) (ay (bM 42 (cE 92 [] (aT cF (aj (au (.int 2)) az)) cg (cy (cE 82 [] (aT cF (aj (ak (ag 100) (ag 92) (f2 item)) az)) cg (cy (aT (a8 sy) (aj (cE 4 [] (aT cF (aj (ag 109) az)) cg (cy (ak (ak (ak (ag 102) (ag 92) (f2 item)) (ag 4) (f2 item)) (ag 82) (f2 item)))) az))))))) (ay (bF (bl (ag 109) (au (.int 0)) (a6 ck)) (ay (mH 84 105 [65] (aT cF (aj (ak (ag 100) (au (.int 1)) (f2 item)) az)) cg (o6 65 (aT cF (aj (ak (ag 100) (au (.int 0)) (f2 item)) az)) cg (cy (dN (aj (ag 65) (aj (ag 105) (aj (dN az) az))))))) aJ) (ay (mH 84 65 [105] (aT cF (aj (ak (ag 100) (au (.int 0)) (f2 item)) az)) cg (o6 105 (aT cF (aj (ak (ag 100) (au (.int 1)) (f2 item)) az)) (bl (ak (ak (ag 42) (au (.int 0)) (f2 item)) (ag 65) (f2 item)) (ak (ak (ag 42) (au (.int 1)) (f2 item)) (ag 105) (f2 item)) (a6 ck)) (cy (dN (aj (ag 65) (aj (ag 105) (aj (ak (ak (ag 42) (au (.int 0)) (f2 item)) (ag 65) (f2 item)) az))))))) (ay (bF (dy (ak (ag 39) (au (.int 0)) (f2 item))) (ay (lQ 84 (cE 65 [] (aT cF (aj (ak (ag 100) (au (.int 0)) (f2 item)) az)) (bl (ak (ak (ag 42) (au (.int 0)) (f2 item)) (ag 65) (f2 item)) (ak (ag 42) (au (.int 1)) (f2 item)) (a6 ip)) (cy (dN (aj (ag 65) (aj (au .none) (aj (ak (ak (ag 42) (au (.int 0)) (f2 item)) (ag 65) (f2 item)) az))))))) aJ) aJ) (ay (bF (dy (ak (ag 39) (au (.int 1)) (f2 item))) (ay (lQ 84 (cE 105 [] (aT cF (aj (ak (ag 100) (au (.int 1)) (f2 item)) az)) (bl (ak (ak (ag 42) (au (.int 1)) (f2 item)) (ag 105) (f2 item)) (ak (ag 42) (au (.int 0)) (f2 item)) (a6 ip)) (cy (dN (aj (au .none) (aj (ag 105) (aj (ak (ak (ag 42) (au (.int 1)) (f2 item)) (ag 105) (f2 item)) az))))))) aJ) aJ) (ay (dV 48 (eH az)) (ay (dF 4 [4,82] (aT cF (aj (ag 109) az)) (ay (dV 82 (eH az)) (ay (dF 92 [92] (aT cF (aj (au (.int 2)) az)) (ay (bF (dy (ak (ag 24) (ag 4) (f2 item))) (ay (lQ 82 (cE 65 [] (aD (ak (aD (ak (ak (ag 93) (ag 92) (f2 item)) (ag 4) (f2 item)) gF) (au (.str "levels")) (f2 item)) dD) (o7 true (ag 65) 82) (cy (ag 65)))) aJ) aJ) aJ)) (ay (dG (dS 48 (aj (ag 82) az) (dd d9))) aJ)))) (ay (bF (ew (dy (ak (ag 39) (au (.int 0)) (f2 item))) (ew (dy (ak (ag 39) (au (.int 1)) (f2 item))) h3)) (ay (lW 24 (lW 48 (lW 109 (mB 84 84 0 [24,48,109] j5)))) aJ) (ay (bF (bl (ag 109) (au (.int 1)) (a6 ck)) (ay (mB 84 84 1 [] j5) aJ) (ay (mB 84 84 2 [] j5) aJ)) aJ)) aJ))))))) (ay (bF (bl (aD (ak (aD (ag 104) gF) (au (.str "names")) (f2 item)) dD) (ak (ag 7) (dK (dy (ag 86)) (eList (aj (au (.str "a.x")) (aj (au (.str "a.y")) az))) (eList (aj (au (.str "a")) (aj (au (.str "b")) az)))) (f2 c7)) (a6 gf)) (ay (bJ (au (.bool false))) aJ) aJ) (ay (bF (ew (bl (aD (ak (aD (ag 104) gF) (au (.str "row.names")) (f2 item)) dD) (aT (a8 hp) (aj (aT cF (aj (au (.int 1)) (aj (ak (aT (a8 c8) (aj (ag 84) az)) (au (.int 1)) (f2 c7)) az))) az)) (a6 gf)) (ew (bl (aT (a8 c8) (aj (aD (ag 104) dD) az)) (ak (ag 109) (au (.int 2)) (f2 c7)) (a6 gf)) h3)) (ay (bJ (au (.bool false))) aJ) aJ) (ay (dF 4 [4] (aT cF (aj (ag 109) az)) (ay (bF (bl (cE 35 [] (aT qe (aj (ak (aD (ag 104) dD) (ag 4) (f2 item)) az)) cg (cy (aT qd (aj (ag 35) az)))) (cE 82 [] (ag 84) cg (cy (ak (ak (ag 82) (au (.int 2)) (f2 item)) (ag 4) (f2 item)))) (a6 gf)) (ay (bJ (au (.bool false))) aJ) aJ) aJ)) (ay (bF (bl (aD (ak (aD (ag 104) dD) (ag 109) (f2 item)) dD) (cE 82 [] (ag 84) cg (cy (dK (bl (ak (ag 82) (au (.int 0)) (f2 item)) (au .none) (a6 ec)) (au .none) (ak (au (.int 10)) (ak (ag 82) (au (.int 0)) (f2 item)) (f2 c7))))) (a6 gf)) (ay (bJ (au (.bool false))) aJ) aJ) (ay (bJ (ak (aD (ak (aD (ag 104) dD) (ak (ag 109) (au (.int 1)) (f2 c7)) (f2 item)) dD) (cE 82 [] (ag 84) cg (cy (dK (bl (ak (ag 82) (au (.int 1)) (f2 item)) (au .none) (a6 ec)) (au .none) (ak (au (.int 20)) (ak (ag 82) (au (.int 1)) (f2 item)) (f2 c7))))) (d7 (a6 ck)))) aJ))))))))))))))))))))))
theorem Yp{r3:kL}{rY:aU}{gD:kL}{qd:aU}{j5:aU}{qe:aU}{rZ:aU}(Ro:ix B (n+2) oJ r3)(Qk:bg B (n+2) oH rY)(r6:ix B (n+2) lD gD)(R6:bg B (n+2) oM qd)(r2:bg B (n+2) nB j5)(R7:bg B (n+2) oL qe)(QI:bg B (n+2) ly rZ){hI:List D->Prop}(rS:mb B (n+2) ly hI){A:Around}(ok:cS tX env)(eg:yU A env):pz B (n+2) A env [fg 1,fg 2,fg 3,fg 4,fg 5,fg 6,fg 7,fg 8,fg 9,fg 10,fg 11,fg 12,fg 13,fg 14,fg 15,fg 16,fg 17,fg 18,fg 19,fg 20,fg 21,fg 22] (Cl (sN v7 hI) r3 rY gD qd j5 qe rZ):=by
 have c:∀i,tS B (n+2) A env (fg i) (OB {ae:=[88,9,33,100,109,93,24,4,86,61,92,32,39,7,104,102,42,44,84,48,82,65,105,35,23],pc:=[(oH.name,rY),(oM.name,qd),(nB.name,j5),(oL.name,qe),(ly.name,rZ)],bb:=[(oJ.name,r3),(lD.name,gD)],fN:=[33],fO:=[33,82],gC:=[33,82],fP:=[24,33,48,82,84,93],dr:=[(812,[4,44]),(814,[92]),(819,[92]),(842,[4,82]),(844,[92]),(858,[4])],vec:=true} tX (fg i)):=fun i=>dp.tT ok (Yo (cf:={ae:=[88,9,33,100,109,93,24,4,86,61,92,32,39,7,104,102,42,44,84,48,82,65,105,35,23],pc:=[(oH.name,rY),(oM.name,qd),(nB.name,j5),(oL.name,qe),(ly.name,rZ)],bb:=[(oJ.name,r3),(lD.name,gD)],fN:=[33],fO:=[33,82],gC:=[33,82],fP:=[24,33,48,82,84,93],dr:=[(812,[4,44]),(814,[92]),(819,[92]),(842,[4,82]),(844,[92]),(858,[4])],vec:=true}) ⟨(b4 Qk GP (b4 R6 HZ (b4 r2 uP (b4 R7 HY (b4 QI AK aQ))))),aQ,(Ek Ro Hs (Ek r6 ya aQ)),aQ,lY⟩ _)
 refine Eq.mp (congrArg (pz B (n+2) A env _) ?_) ((gH (c 1) (gH (c 2) (gH (c 3) (gH (c 4) (gH (c 5) (gH (c 6) (gH (c 7) (gH (c 8) (gH (c 9) (gH (c 10) (gH (c 11) (gH (c 12) (gH (aez r6 rS ok eg) (gH (c 14) (gH (c 15) (gH (c 16) (gH (dp.tT ok (aeA r2)) (gH (c 18) (gH (c 19) (gH (c 20) (gH (c 21) (gH (c 22) (SB.tT ok gp))))))))))))))))))))))))
 kernel_rfl
end
section
variable {w:World} {B:bC w} {n:Nat} {env:Env} {ρ:aO} {g:G} {sc:List (Str×NameKind)}
noncomputable def Mh:List Stmt:=(bd gJ.i).body.drop 2
theorem Un:(bd gJ.i).body=fg 0::fg 1::Mh:=by kernel_rfl
theorem Wf:∃aH aK p3 a4 bf bq b0,fg 0=.Assign [.Name "cells" aH] (.Subscript (.Name "script" aK) (.Slice none (some (.Constant (.int 63) b0 p3)) none a4) bf) bq:=afD _ _ _ _ _ _ _ rfl
theorem U4{W:bh}{A:Around}{E:Value->Shared->Prop}{s:Shared}{R:a7}{K:Value->Shared->Prop}{is:List Int}{xs:List Value}{lu:Addr}(eK:A.frames=some [])(aI:dk (n+1) A)(aS:∀env,cS tX env->yU (A.deeper env) env->pz B n (A.deeper env) env (fg 1::Mh) W){Q:dM->aO->Prop}(aN:∀g:G,bE w g (is.map .int) xs)(a5:is.length<=63)(i9:∀(pm:Value) (s:Shared) l,bx B g l s.heap->BindsTo s (fdOf gJ.name gJ.name (bd gJ.i) gJ.c gJ.eO pm) ⟨[.ref lu],[]⟩ [(nm 88,.ref lu)])(ei:W (hr [(90,.mt 796 .tab)] 9 (.aX (.list (is.map .int)))) Q)(S:bx B g ([(796,tabObj #[])]++((lu,lst xs)::R)) s.heap)(k:∀v ao ms' aC t',(Ext g ao/\∃a8 ρ' vs',c6 w ao ρ' vs' ms'/\zX w ao ρ' a8 v/\Q a8 ρ')->bx B ao (ms'++((lu,lst xs)::R)) aC->K v {s with heap:=aC,toks:=t'}):
  codeAny (model bD w) A (.call (.ref gJ.a) ⟨[.ref lu],[]⟩) (fun r bP=>match r with|.ok (.ret v)=>K v bP|.ok _=>False|.error e=>E e bP) s:=by
 refine cQ (B.fn _ DA) fun pm hf=>?_
 have jM:=B.cd _ DA
 have iN:mR (bd gJ.i).scope=true:=by kernel_rfl
 have q3:(bd gJ.i).scope.names.lookup (nm 90)=none:=by kernel_rfl
 have kq:codeOf (bd gJ.i).scope.names=none∨gJ.c=798:=.inr rfl
 have El:(bd gJ.i).scope.names.lookup (nm 88)=some .local:=by kernel_rfl
 have Em:eS (bd gJ.i).scope.names (nm 9)=true:=by kernel_rfl
 have DJ:=Un
 unfold tX at aS
 revert hf jM iN q3 kq El Em DJ i9 aS
 generalize bd gJ.i=d
 generalize gJ.name=kp
 generalize gJ.c=c
 generalize gJ.eO=eO
 generalize gJ.a=fa
 intro aS i9 hf jM iN q3 kq El Em DJ
 have lS:=iN
 unfold mR at lS
 simp only[Bool.and_eq_true,beq_iff_eq,Bool.not_eq_true',List.all_eq_true,bne_iff_ne] at lS
 refine bS lS fun iK s4=>?_
 obtain⟨⟨s1,s2⟩,s3⟩:=iK
 refine(codeAny_call_function (by have:=aI.2.1;show A.depth<1000;lia) (S.stays _ _ hf) rfl s2 s3 rfl (jM.keeps S.stays) (i9 pm s _ S _ _ _ _ (u1 ?_)))
 refine ph (bx.pushCells (l:=[]) (B:=B) (g:=g) d.scope.names _ [] _ (S.push {cls:=.type "frame",data:=.dict #[]})) fun cX dq fw j1 gi i4 kE i5=>?_
 have aD:(s.heap.push {cls:=.type "frame",data:=.dict #[]}).objs.size=s.heap.objs.size+1:=Heap.size_push ..
 rw[aD] at fw j1 gi i4 kE i5
 have l6:(PySem.pushCells (s.heap.push {cls:=.type "frame",data:=.dict #[]}) d.scope.names).Ns s.heap.objs.size (fun Z=>none):=(Heap.Ns.new s.heap (.type "frame")).keeps (pushCells_keeps _ _)
 show wpAny _ _ _ _ _ {s with heap:=PySem.pushCells (s.heap.push {cls:=.type "frame",data:=.dict #[]}) d.scope.names}
 generalize PySem.pushCells (s.heap.push {cls:=.type "frame",data:=.dict #[]}) d.scope.names=H at *
 generalize dw:newEnv (fdOf kp kp d c eO pm).scope s.heap.objs.size _ _ _ _ _ _ _=bv
 have fz:bv.cells=cellsFrom (s.heap.objs.size+1) d.scope.names []:=by exact congrArg _ dw.symm
 have wl:bv.locals=s.heap.objs.size:=by exact congrArg _ dw.symm
 have qW:bv.frame=some bv.locals:=by rw[<- dw];rfl
 have kind:∀x,bv.kindOf x=d.scope.names.lookup x:=fun x=>by exact dw▸rfl
 have uniq:∀x k,(x,k)∈d.scope.names->d.scope.names.lookup x=some k:=fun x k aE=>(s4 _ aE).1
 have ok:cS d.scope.names bv:=by
  refine⟨by refine dw▸?_;exact s1,by exact congrArg _ dw.symm,by exact congrArg _ dw.symm,fun x aE=>by rw[kind,aE],fun x aE=>by rw[kind,aE],fun x aE=>absurd rfl (s4 _ (mem_lookup aE)).2,fun x aE=>by rw[kind,aE],fun x aE=>?_,fun cV bb=>?_⟩
  rotate_left
  ·rcases kq with e|e
   ·replace bb:=e▸bb;injection bb
   ·unfold codeOf at bb;refine bS (ea bb) fun Z aeB=>?_;subst aeB;exact dw▸e▸rfl
  rw[kind] at aE
  rcases aE with aE|aE
  ·refine dc (gi x (mem_lookup aE)) fun ca o f1 f2=>?_;exact⟨ca,by rw[fz];exact f1⟩
  ·exact absurd rfl (s4 _ (mem_lookup aE)).2
 have tm:∀x v,dX [(90,.mt 796 .tab)] [.ref 796] x=some v->x=90:=fun x v aP=>by
  unfold dX at aP
  split at aP
  ·assumption
  ·unfold dX at aP;exact ns aP
 have nh:dP bv (fun Z=>none) cX g [(90,.mt 796 .tab)] [.ref 796]:=by
  refine⟨fun x v aP=>?_,fun x av Z=>?_,fun x y ca aE bj=>?_,fun x v aP=>?_,fun x ca aE=>?_⟩
  ·rw[tm x v aP]
   unfold fR
   rw[kind,q3]
   trivial
  ·rw[kind] at av
   refine dc (gi _ (mem_lookup av)) fun ca o f1 f2=>?_
   exact ji ca o _ (by exact fz.symm▸f1) f2 ((fw _ f2).1)
  ·rw[fz] at aE bj
   exact i5 (fun Z Z Z h=>by cases h) (fun Z Z h=>by cases h) x y ca aE bj
  ·rw[tm x v aP];decide
  ·rw[fz] at aE
   rcases j1 x ca aE with aE|⟨⟨o,ho⟩,_⟩
   ·cases aE
   ·exact .inl ⟨o,_,ho,(fw _ ho).1⟩
 have pL:cB B bv.locals (fun Z=>none) g ((cX++[(796,tabObj #[])])++((lu,lst xs)::R)) H:=by
  rw[wl,List.append_assoc]
  exact cB.close (dq.perm List.perm_middle) l6
 have OC:bv.kindOf (nm 88)=some .local:=(kind _).trans El
 rw[List.forIn_cons]
 refine wpAny_bind (wpAny_bind (wpAny_storeName_local OC pL.ns (fun cn n₁ Fq=>wpAny_pure ?_) (by exact ok.fn.symm▸rfl)))
 show wpAny _ _ (forIn [] _ _) _ _ _
 skip
 refine aW pL.open fun cm ait Z=>?_
 refine iJ (id n₁) fun xK agC agD Fr aib=>?_
 have kG:cB B bv.locals _ g ((cX++[(796,tabObj #[])])++((lu,lst xs)::R)) cn:=cB.close (ait.update Fq Fr) n₁
 have aF:=kG.cb.own (lu,lst xs) (by exact List.mem_append_right _ List.mem_cons_self)
 refine wpAny_pure ⟨B.nolimit.keeps kG.cb.stays,codeAny_func ?_⟩
 show wpAny _ _ (execs d.body bv) _ _ _
 refine g4 fun aji ab9=>?_
 refine afe Wf fun aH aK p3 a4 bf bq b0 h0=>?_
 refine MG fun ajj ajk aca aiY=>?_
 refine DJ.symm▸h0.symm▸?_
 have px:xs.length=is.length:=by rw[(aN g).length,List.length_map]
 refine wpAny_execs_cons ?_
 rw[exec_Assign_Name bv _ aH _ bq rfl]
 refine wpAny_bind (wpAny_standAt (wpAny_bind (wpAny_Subscript_list_slice (wpAny_Name (wpAny_loadName_local ok.fn OC n₁ (v:=.ref lu) (if_pos rfl) ?_) (by decide +kernel)))))
 refine wpAny_evalPart_none (wpAny_evalPart_some (wpAny_Constant_int ⟨lu,xs.toArray,none,some 63,rfl,gu _ aF rfl ⟨0,rfl⟩,by rw[List.size_toArray,px,sizeLine_eq];exact bO ‹_›,.none,.int _ _,?_⟩))
 refine(show slicePick xs.toArray none (some 63) none=xs.toArray from by
  have:=slicePick_upto' xs.toArray 63
  rw[show (((63:Nat):Int))=63 from rfl] at this
  rw[this,List.take_of_length_le (by show xs.length<=63;exact g0 ‹_› ‹_›)]).symm▸?_
 obtain⟨cH,eJ,Ph,d3⟩:=kG.Lj (o:={cls:=.type "slice",data:=.fields #[.none,.int 63 _,.none]}) (j:=0) rfl (aN g)
 have rO:∀m₁:Str->Option Value,dP bv m₁ cX cH [(90,.mt 796 .tab)] [.ref 796]:=fun m₁=>⟨fun x v aP=>by
  rw[tm x v aP]
  unfold fR
  rw[kind,q3]
  trivial,nh.own,nh.inj,nh.g6,fun x ca aE=>(nh.jH x ca aE).imp id fun acb=>by refine cQ acb fun P dj=>?_;exact⟨P,eJ _ _ dj⟩⟩
 refine wpAny_bind (wpAny_standAt (wpAny_bind (b9.run (b9.v3 (Q:=fun Z ρ' Z=>ρ'=hr [(90,.mt 796 .tab)] 9 (.aX (.list (is.map .int)))) ok Em (by decide) Ph rfl rfl) aI.deeper ⟨_,cX,[.ref 796],[(796,tabObj #[])],rO _,EP (.ref 796) [] [(796,tabObj #[])] [] rfl rfl ⟨rfl,rfl,rfl⟩ rfl rfl,d3⟩ fun Z uh mn jp Ak m5 aiu tF=>wpAny_pure ?_)))
 subst aiu
 refine aS bv ok ⟨Around.frames_deeper eK,qW,(kind _).trans q3⟩ _ mn _ ei _ {s with heap:=jp,toks:=Ak} ((lu,lst xs)::R) _ aI.deeper tF fun f ρ' ao gw iM ex cv hQ=>?_
 obtain⟨a8,gL,aL⟩:=cv
 refine l0 hQ fun m₂ af0 w4 cr uf jN d3=>?_
 have jY:bx B ao (cr++((lu,lst xs)::R)) gw:=(d3.cb).sub (by rw[List.append_assoc];exact List.sublist_append_right _ _)
 refine aca _ _ ?_
 refine ab9 _ _ ?_
 refine k _ ao cr gw iM ⟨(eJ.trans m5).trans ex,a8,ρ',w4,jN,?_,aL⟩ jY
 cases a8 with
 | cx=>
  cases f with
  | next=>rfl
  | _=>exact gL.elim
 | dv V=>
  cases f with
  | ret v=>cases V <;> exact gL
  | next=>cases V <;> exact gL.elim
  | brk=>cases V <;> exact gL.elim
  | cont=>cases V <;> exact gL.elim
end
section
variable {w:World} {B:bC w}
set_option genInjectivity true in
inductive bY where
 | na|i (n:Int)|s (t:Str)|q (n:Int)
 deriving DecidableEq
noncomputable def five:List Int:=[-1,0,1,2,3]
noncomputable def hX(n:Int):Str:=Str.ofString (toString n)
theorem DK(a:Int)(n:Nat):Builtin.Range.rangeSize a (a+n) 1=n:=by
 unfold Builtin.Range.rangeSize
 rw[if_pos (by decide)]
 split <;> lia
theorem Yq{a:Int}{n:Nat}(h0:0<=a)(aw:a<=100000)(h:n<=100000):Builtin.Range.small a (a+n) 1=true:=by
 unfold Builtin.Range.small
 rw[DK]
 unfold Builtin.Range.rangeFitsLong
 simp
 omega
theorem Ly{a:Int}{n:Nat}(h0:0<=a)(aw:a<=100000)(h:n<=100000):n3 a (a+n) 1=some (.hA a (a+n) 1):=by
 unfold n3;rw[if_pos ⟨Yq h0 aw h,by decide,by decide⟩]
theorem Jk(a:Int)(n:Nat):eR a (a+n) 1=(List.range n).map fun i:Nat=>D.int (a+(i:Int)):=by
 unfold eR;rw[DK];simp
theorem d0{n:Nat}(h:n<=100000):sx [.int n]=some (.hA 0 n 1):=by
 have:=Ly (a:=0) (n:=n) (by decide) (by decide) h
 rw[Int.zero_add] at this;exact this
theorem hk(n:Nat):eR 0 n 1=(List.range n).map fun i:Nat=>D.int (i:Int):=by
 have:=Jk 0 n
 rw[Int.zero_add] at this;rw[this];simp
theorem yi{a:Int}{n:Nat}(h:n<=10000):hp [.hA a (a+n) 1]=some (.list ((List.range n).map fun i:Nat=>D.int (a+(i:Int)))):=by
 show (if _ then _ else _)=_
 rw[DK,if_pos ⟨by exact Int.natCast_nonneg _,by exact EV ‹_›⟩,Jk]
theorem comp_map{α:Type}{x:Nat}{f8:bG}{e g:α->D}{ρ:aO}{k:List D->aO->Prop}:∀(xs:List α) (acc:List D),acc.length+xs.length<=10000->
  (∀a∈xs,∀K:D->aO->Prop,K (g a) ((x,.aX (e a))::ρ)->f8 ((x,.aX (e a))::ρ) K)->k (acc++xs.map g) ρ->fJ x cg (cy f8) (xs.map e) acc ρ k
 | [],acc,Z,bt,av=>by rw[List.map_nil,List.append_nil] at av;exact av
 | a::xs,acc,a5,dw,av=>by
  rw[List.length_cons] at a5
  refine tU (by lia) (dw a (.head _) _ ?_)
  refine comp_map xs (acc++[g a]) (by rw[List.length_append,List.length_singleton];lia) (fun b aS=>dw b (.tail _ aS)) ?_
  rw[List.append_assoc];exact av
theorem oO{α:Type}{x:Nat}{T:db}{f8:bG}{e g:α->D}{p:α->Bool}{ρ:aO}{k:List D->aO->Prop}:∀(xs:List α) (acc:List D),acc.length+xs.length<=10000->
  (∀a∈xs,∀K:Bool->aO->Prop,K (p a) ((x,.aX (e a))::ρ)->T ((x,.aX (e a))::ρ) K)->
  (∀a∈xs,p a=true->∀K:D->aO->Prop,K (g a) ((x,.aX (e a))::ρ)->f8 ((x,.aX (e a))::ρ) K)->k (acc++(xs.filter p).map g) ρ->fJ x T (cy f8) (xs.map e) acc ρ k
 | [],acc,Z,bt,cD,av=>by rw[List.filter_nil,List.map_nil,List.append_nil] at av;exact av
 | a::xs,acc,a5,eX,dw,av=>by
  rw[List.length_cons] at a5
  refine eX a (.head _) _ ?_
  cases bc:p a with
  | true=>
   refine tU (by lia) (dw a (.head _) bc _ ?_)
   refine oO xs (acc++[g a]) (by rw[List.length_append,List.length_singleton];lia) (fun b aS=>eX b (.tail _ aS)) (fun b aS=>dw b (.tail _ aS)) ?_
   rw[List.append_assoc];rw[List.filter_cons_of_pos bc] at av;exact av
  | false=>
   refine oO xs acc (Nat.le_of_lt ‹_›) (fun b aS=>eX b (.tail _ aS)) (fun b aS=>dw b (.tail _ aS)) ?_
   rw[List.filter_cons_of_neg (by exact bc.symm▸Bool.false_ne_true)] at av;exact av
theorem nR{α σ:Type}{asg:D->aO->(aO->Prop)->Prop}{dr:List Nat}{cO:bh}{e:α->D}(P:σ->aO)(f:σ->α->σ)(bU:σ->Nat->Prop){k:dM->aO->Prop}(ow:∀s a n,bU s (n+1)->bU (f s a) n):∀(xs:List α) (s:σ),bU s xs.length->
  (∀s n,∀a∈xs,bU s (n+1)->∀(K:aO->Prop) (R:V->aO->Prop),K (P (f s a))->asg (e a) (P s) fun aY=>cO aY fun a8 ρ'=>match a8 with|.cx=>dO (kl dr ρ') (K (gb dr ρ'))|.dv v=>R v ρ')->k .cx (P (xs.foldl f s))->im asg dr cO (xs.map e) (P s) k
 | [],s,Z,bt,av=>av
 | a::xs,s,aN,hs,av=>hs s xs.length a (.head _) aN (fun ρ=>im asg dr cO (xs.map e) ρ k) _ (nR P f bU ow xs (f s a) (ow s a _ aN) (fun s n b aS=>hs s n b (.tail _ aS)) av)
theorem yf{α β:Type}(g:α->β):∀(xs:List α) (acc:List β),xs.foldl (fun s a=>s++[g a]) acc=acc++xs.map g
 | [],acc=>(List.append_nil _).symm
 | a::xs,acc=>by rw[List.foldl_cons,yf g xs,List.append_assoc];rfl
theorem Yr{f:List D->Option D}{ds:List D}{k:D->Prop}(h:a8 f ds k):∃d,f ds=some d/\k d:=by
 unfold a8 at h
 cases e:f ds with
 | none=>exact(e▸h).elim
 | some d=>rw[e] at h;exact⟨d,rfl,h⟩
noncomputable def OD(f:D->Option D)(ds:List D):Option D:=match ds with|[a]=>f a|_=>none
theorem Wg{f:D->Option D}{ds:List D}{d:D}(h:OD f ds=some d):∃a,ds=[a]/\f a=some d:=by
 rcases ds with _|⟨a,_|⟨b,l⟩⟩
 ·exact ns h
 ·exact⟨a,rfl,h⟩
 ·exact ns h
noncomputable def En(d:D):Option Int:=match d with|.int n=>some n|_=>none
theorem U5{d:D}{n:Int}(h:En d=some n):d=.int n:=by cases d <;> cases h;rfl
noncomputable def yW(n:Int):Option D:=bif five.contains n then some (.str (hX n)) else none
noncomputable def yX:List D->Option D:=OD fun d=>match En d with|some n=>yW n|none=>none
theorem so{n:Int}(h:five.contains n=true):n=-1∨n=0∨n=1∨n=2∨n=3:=by simpa [five] using h
theorem Wh{n:Int}{k:D->Prop}(h:five.contains n=true)(av:k (.str (hX n))):Hu [(58,.aX (.int n))] (sV k):=by
 rcases so h with rfl|rfl|rfl|rfl|rfl
 ·exact fun a=>dA (f:=jd) (d:=.str (hX 1)) (by kernel_rfl) ⟨rfl,⟨rfl,⟨rfl,Eq.mpr (by kernel_rfl) av⟩⟩⟩
 ·exact fun a=>dA (f:=jd) (d:=.str (hX 0)) (by kernel_rfl) ⟨rfl,⟨rfl,Eq.mpr (by kernel_rfl) av⟩⟩
 ·exact fun a=>dA (f:=jd) (d:=.str (hX 1)) (by kernel_rfl) ⟨rfl,⟨rfl,Eq.mpr (by kernel_rfl) av⟩⟩
 ·exact fun a=>dA (f:=jd) (d:=.str (hX 2)) (by kernel_rfl) ⟨rfl,⟨rfl,Eq.mpr (by kernel_rfl) av⟩⟩
 ·exact fun a=>dA (f:=jd) (d:=.str (hX 3)) (by kernel_rfl) ⟨rfl,⟨rfl,Eq.mpr (by kernel_rfl) av⟩⟩
theorem Ia:bg B 1 nC (a8 yX):=.of QM RB.h fun ds k h=>by
 refine aW (Yr h) fun d Py av=>?_
 refine aW (Wg Py) fun a l2 e=>?_
 subst l2
 clear h Py
 cases aN:En a with
 | none=>exact ns (aN▸e)
 | some n=>
  replace e:=aN▸e
  replace e:yW n=some d:=e
  obtain rfl:=U5 aN
  cases bN:five.contains n with
  | true=>simp only[yW,bN,cond_true,Option.some.injEq] at e;subst e;exact⟨rfl,Wh bN av⟩
  | false=>simp only[yW,bN,cond_false,reduceCtorEq] at e
noncomputable def Bq:aU:=Run [58] [] (Iq)
theorem TR:bg B 1 qx Bq:=by unfold Bq;exact .run Sn (S6)
noncomputable def uO:aU:=Run [110] [] (GQ)
theorem Hj:bg B 1 ny uO:=by unfold uO;exact .run P3 (Qx)
noncomputable def x4:aU:=Run [58,15] [] (GB)
theorem G0:bg B 1 nx x4:=by unfold x4;exact .run PP (Qa)
noncomputable def Br:aU:=Run [110] [] (Io)
theorem TS:bg B 1 qy Br:=by unfold Br;exact .run Sj (S2)
noncomputable def BX:aU:=Run [110,21,19] [] (Jd x4)
theorem U6:bg B 2 qL BX:=by unfold BX;exact .run TB (Ug G0)
noncomputable def A0:aU:=Run [110,19] [] (G5 Br BX)
theorem R8:bg B 3 p4 A0:=by unfold A0;exact .run Qm (Q2 (TS.le (by decide)) U6)
noncomputable def AP:aU:=Run [101] [] (GR)
theorem Rp:bg B 1 pZ AP:=by unfold AP;exact .run P4 (Qy)
noncomputable def Bs:aU:=Run [110,19] [] (Ip A0 AP)
theorem TT:bg B 4 qz Bs:=by unfold Bs;exact .run Sl (S4 R8 (Rp.le (by decide)))
noncomputable def A1:aU:=Run [114,19] [] (G6 Bs)
theorem R9:bg B 5 p5 A1:=by unfold A1;exact .run Qn (Q4 TT)
noncomputable def A9:aU:=Run [110,76] [] (Hv x4 (a8 yX))
theorem SJ:bg B 2 qf A9:=by unfold A9;exact .run QN (RC G0 Ia)
noncomputable def BZ:aU:=Run [110,29] [] (Je A9 uO)
theorem U7:bg B 3 qM BZ:=by unfold BZ;exact .run TC (Ui SJ (Hj.le (by decide)))
noncomputable def AQ:aU:=Run [114,19] [] (GU A1 BZ)
theorem Rq:bg B 6 p0 AQ:=by unfold AQ;exact .run P5 (QA R9 (U7.le (by decide)))
noncomputable def u0:aU:=Run [110,19] [] (G7 AQ)
theorem Sa:bg B 7 oI u0:=by unfold u0;exact .run P6 (Q6 Rq)
@[irreducible] noncomputable def r7:aU:=fun ds k=>At (Run [110] [] (AT uO (a8 yX)) ds k)
theorem SK:bg B 2 qg r7:=by unfold r7;exact .wall (.run QO (RE Hj Ia))
@[irreducible] noncomputable def oN:aU:=fun ds k=>At (Run [43,35] [] (x6 u0) ds k)
theorem Ib:bg B 8 qh oN:=by unfold oN;exact .wall (.run QP (RF Sa))
theorem ym{P:Int->Prop}{n:Int}(h:five.contains n=true)(aw:P (-1))(ai:P 0)(a3:P 1)(bn:P 2)(bN:P 3):P n:=by
 rcases so h with e|e|e|e|e <;> refine e.symm▸?_ <;> assumption
theorem U8{n:Int}{k:D->Prop}(h:five.contains n=true)(av:k (.str (hX n))):r7 [.tup [.int n,.int 1]] k:=by
 unfold r7
 exact⟨Eq.mpr (ym (P:=fun n=>Run [110] [] (AT uO (a8 yX)) [.tup [.int n,.int 1]] k=k (.str (hX n))) h (by kernel_rfl) (by kernel_rfl) (by kernel_rfl) (by kernel_rfl) (by kernel_rfl)) av⟩
end
section
variable {w:World} {B:bC w}
noncomputable def oQ:aU:=Run [106,60] [] (Ir)
theorem sb:bg B 1 j8 oQ:=by unfold oQ;exact .run Sp (S7)
noncomputable def vg:aU:=Run [106] [] (H0)
theorem Bj:bg B 1 nG vg:=by unfold vg;exact .run Ru (Sw)
noncomputable def AF:aU:=Run [43] [] (Gs)
theorem Ql:bg B 1 pR AF:=by unfold AF;exact .run PK (PW)
noncomputable def Cm:aU:=Run [106] [] (BV)
theorem Wi:bg B 1 mC Cm:=by unfold Cm;exact .run Ji (JY)
@[irreducible] noncomputable def qF:aU:=fun ds k=>At (Run [102,10] [] (It) ds k)
theorem IZ:bg B 1 qA qF:=by unfold qF;exact .wall (.run Sq (S8))
noncomputable def u6:aU:=Run [106] [] (Hw oQ)
theorem Ba:bg B 2 nD u6:=by unfold u6;exact .run QQ (RH sb)
noncomputable def yn:aU:=Run [106] [] (Jg oQ)
theorem JZ:bg B 2 qN yn:=by unfold yn;exact .run TE (Um sb)
noncomputable def I0:aU:=Run [106] [] (Bh yn oQ)
theorem TU:bg B 3 my I0:=by exact .run H7 (Iz JZ (sb.le (by decide)))
@[irreducible] noncomputable def vG:aU:=fun ds k=>At (Run [107] [] (AO u6 oQ vg oN (fun Z Z=>False) qF) ds k)
theorem Wj:bg B 9 iD vG:=by unfold vG;exact .wall (.run GZ (Hi (Ba.le (by decide)) (sb.le (by decide)) (Bj.le (by decide)) Ib (fun Z Z Z Z Z h=>h.elim) (IZ.le (by decide))))
@[irreducible] noncomputable def nS:aU:=fun ds k=>At (Run [107] [] (AO u6 oQ vg oN vG qF) ds k)
theorem Ys:bg B 10 iD nS:=by unfold nS;exact .wall (.run GZ (Hi (Ba.le (by decide)) (sb.le (by decide)) (Bj.le (by decide)) (Ib.le (by decide)) Wj (IZ.le (by decide))))
noncomputable abbrev je(l:List D):D:=.vec "character" (.list l) .none
inductive eQ where
 | int|dbl|chr|c1 (lv:List Str)
structure cG where
 kd:eQ
 ae:List bY
noncomputable def iW:List Str:=["u","v","w","x","y"]
noncomputable def eQ.ok:eQ->Prop
 | .c1 lv=>lv.Nodup/\(∀t∈lv,t∈iW)/\lv.length<=100
 | Z=>True
noncomputable def eQ.fT:eQ->Bool|.c1 _=>true|_=>false
noncomputable def fF:eQ->bY->Prop
 | Z,.na=>True
 | .int,.i n=>five.contains n=true
 | .dbl,.i n=>five.contains n=true
 | .chr,.s t=>t∈iW
 | .c1 lv,.s t=>t∈lv
 | Z,bt=>False
noncomputable def dg:eQ->bY->D
 | .int,.i n=>.int n
 | .dbl,.i n=>.tup [.int n,.int 1]
 | .chr,.s t=>.str t
 | .c1 lv,.s t=>.int (lv.idxOf t+1:Nat)
 | Z,bt=>.none
noncomputable def m8:eQ->Str|.int=>"integer"|.dbl=>"double"|.chr=>"character"|.c1 _=>"integer"
noncomputable def FC:eQ->D|.c1 lv=>.dict ["levels","class"] [je (lv.map .str),je [.str "factor"]]|_=>.none
noncomputable def ce(c:cG):D:=.vec (m8 c.kd) (.list (c.ae.map (dg c.kd))) (FC c.kd)
structure cG.Ok(N:Nat)(c:cG):Prop where
 kd:c.kd.ok
 len:c.ae.length<=N
 ea:∀v∈c.ae,fF c.kd v
noncomputable def f6:bY->D|.i n=>.str (hX n)|.s t=>.str t|_=>.none
theorem ap{a:Addr}{l:List D}{d:D}{k:D->List D->Prop}(h:l.length<=10000)(av:k .none (l++[d])):a=a/\dd d9 l [d] k:=⟨rfl,ab0 h av⟩
theorem h1{l:List D}{i:Nat}{d:D}(aN:i<=100000)(h:l[i]?=some d):item (.list l) (.int i)=some d:=by
 show mK l i=_;unfold mK;rw[if_neg (by lia),if_pos (by exact Int.natCast_nonneg _),Int.toNat_natCast];exact h
theorem kX{l:List D}(h:l.length<=10000):c8 [.list l]=some (.int l.length):=if_pos h
theorem B0{kd:eQ}{v:bY}{k:D->Prop}(h:fF kd v)(hf:kd.fT=false)(av:k (f6 v)):oN [.str (m8 kd),dg kd v] k:=by
 unfold oN
 constructor
 cases v with
 | na=>exact Eq.mpr (by cases kd <;> kernel_rfl) av
 | i n=>
  cases kd with
  | int=>exact Eq.mpr (ym (P:=fun n=>Run [43,35] [] (x6 u0) [.str (m8 .int),dg .int (.i n)] k=k (.str (hX n))) h (by kernel_rfl) (by kernel_rfl) (by kernel_rfl) (by kernel_rfl) (by kernel_rfl)) av
  | dbl=>exact Eq.mpr (ym (P:=fun n=>Run [43,35] [] (x6 u0) [.str (m8 .dbl),dg .dbl (.i n)] k=k (.str (hX n))) h (by kernel_rfl) (by kernel_rfl) (by kernel_rfl) (by kernel_rfl) (by kernel_rfl)) av
  | chr=>exact h.elim
  | c1 lv=>exact h.elim
 | s t=>
  cases kd with
  | chr=>exact Eq.mpr (by kernel_rfl) av
  | c1 lv=>injection hf
  | _=>exact h.elim
 | q n=>cases kd <;> exact h.elim
theorem Wk{t:Str}{k:D->Prop}(av:k (.str t)):oN [.str "character",.str t] k:=by
 unfold oN
 exact⟨Eq.mpr (by kernel_rfl) av⟩
theorem Uo{ts:List Str}{k:D->Prop}(a5:ts.length<=10000)(av:k (.list (ts.map .str))):vG [je (ts.map .str)] k:=by
 unfold vG
 exact⟨comp_map (e:=.str) (g:=.str) ts [] (by exact eN ‹_›) (fun t Z K aZ=>Wk aZ) av⟩
theorem U9{lv:List Str}{v:bY}{k:D->Prop}(aF:lv.length<=100)(h:fF (.c1 lv) v)(av:k (f6 v)):qF [.list (lv.map .str),dg (.c1 lv) v] k:=by
 cases v with
 | na=>unfold qF;exact⟨Eq.mpr (by kernel_rfl) av⟩
 | s t=>
  have hn:lv.idxOf t<lv.length:=List.idxOf_lt_length_of_mem h
  have aD:c8 [.list (lv.map .str)]=some (.int lv.length):=(if_pos (by rw[List.length_map];exact bO ‹_›)).trans (by rw[List.length_map])
  have ak:item (.list (lv.map .str)) (.int (((lv.idxOf t+1:Nat):Int) - 1))=some (.str t):=by
   rw[show ((lv.idxOf t+1:Nat):Int) - 1=(lv.idxOf t:Nat) by lia]
   exact h1 (by exact jc ‹_› ‹_›) (by rw[List.getElem?_map,List.getElem?_eq_getElem hn,List.getElem_idxOf];rfl)
  unfold qF
  exact⟨dA aD (zt (b:=decide ((lv.length:Int)<((lv.idxOf t+1:Nat):Int))) (decide_eq_false (by lia)) (b6 ak av))⟩
 | _=>exact h.elim
theorem sp{c:cG}{k:D->Prop}(h:c.Ok 10000)(av:k (.list (c.ae.map f6))):nS [ce c] k:=by
 obtain⟨kd,ae⟩:=c
 obtain⟨rD,a5,aN⟩:=h
 unfold nS
 constructor
 cases kd with
 | c1 lv=>
  refine Uo (Nat.le_trans rD.2.2 (by decide)) ?_
  exact comp_map (e:=dg (.c1 lv)) (g:=f6) ae [] (by exact(Nat.zero_add _).symm▸a5) (fun v aP K aZ=>U9 rD.2.2 (aN v aP) aZ) av
 | int=>exact comp_map (e:=dg .int) (g:=f6) ae [] (by exact(Nat.zero_add _).symm▸a5) (fun v aP K aZ=>B0 (kd:=.int) (aN v aP) rfl aZ) av
 | dbl=>exact comp_map (e:=dg .dbl) (g:=f6) ae [] (by exact(Nat.zero_add _).symm▸a5) (fun v aP K aZ=>B0 (kd:=.dbl) (aN v aP) rfl aZ) av
 | chr=>exact comp_map (e:=dg .chr) (g:=f6) ae [] (by exact(Nat.zero_add _).symm▸a5) (fun v aP K aZ=>B0 (kd:=.chr) (aN v aP) rfl aZ) av
@[irreducible] noncomputable def nH:aU:=fun ds k=>At (Run [106] [] (H2 u6 vg) ds k)
theorem yb:bg B 3 j7 nH:=by unfold nH;exact .wall (.run Rw (Sz Ba (Bj.le (by decide))))
@[irreducible] noncomputable def vv:aU:=fun ds k=>At (Run [43] [] (IW) ds k)
theorem Up:bg B 1 qJ vv:=by unfold vv;exact .wall (.run S1 (TP))
@[irreducible] noncomputable def sC:aU:=fun ds k=>At (Run [12] [] AV ds k)
theorem Ic:bg B 1 kQ sC:=by unfold sC;exact .wall (.run Hh HI)
theorem iO{c:cG}{k:D->Prop}(av:k (.bool c.kd.fT)):nH [ce c] k:=by
 obtain⟨kd,ae⟩:=c
 unfold nH
 constructor
 cases kd <;> exact Eq.mpr (by kernel_rfl) av
theorem KM{kd:eQ}{k:D->Prop}(av:k .none):vv [.str (m8 kd)] k:=by
 unfold vv
 constructor
 cases kd <;> exact Eq.mpr (by kernel_rfl) av
theorem yz{c:cG}{k:D->Prop}(av:k (FC c.kd)):sC [ce c] k:=by
 obtain⟨kd,ae⟩:=c
 unfold sC
 constructor
 cases kd with
 | c1 lv=>exact fun a=>⟨rfl,⟨rfl,Eq.mpr (by kernel_rfl) av⟩⟩
 | _=>exact Eq.mpr (by kernel_rfl) av
noncomputable def g9:Option Nat->D|none=>.none|some i=>.int i
noncomputable def v8(ae:List bY):Option Nat->bY|none=>.na|some i=>ae.getD i .na
noncomputable def cG.pick(c:cG)(ps:List (Option Nat)):cG:=⟨c.kd,ps.map (v8 c.ae)⟩
theorem KN(kd:eQ):dg kd .na=.none:=by cases kd <;> rfl
@[irreducible] noncomputable def nT:aU:=fun ds k=>At (Run [12,76] [] (HD sC vv) ds k)
theorem Id:bg B 3 nE nT:=by unfold nT;exact .wall (.run QY (RX (n:=0) (Ic.le (by decide)) (Up.le (by decide))))
theorem yA{c:cG}{ps:List (Option Nat)}{k:D->Prop}(aw:c.ae.length<=10000)(ai:ps.length<=10000)(a3:∀i,some i∈ps->i<100000)(av:k (ce (c.pick ps))):nT [ce c,.list (ps.map g9)] k:=by
 unfold nT
 refine⟨fun a=>dA ((kX (by rw[List.length_map];exact aw)).trans (by rw[List.length_map])) ?_⟩
 refine nR (e:=g9) (fun acc=>[(14,.aX (.int c.ae.length)),(36,.mt a (.list acc)),(76,.aX (.list (ps.map g9))),(12,.aX (ce c))]) (fun acc p=>acc++[dg c.kd (v8 c.ae p)]) (fun acc n=>acc.length+n<=10000) (fun s a n h=>by rw[List.length_append,List.length_singleton];lia) ps [] (by exact eN ‹_›) (fun acc n p bc a5 K R aZ=>?_) (yz ?_)
 ·have f3:acc.length<=10000:=by lia
  cases p with
  | none=>rw[show v8 c.ae none=.na from rfl,KN] at aZ;exact KM (ap f3 aZ)
  | some i=>
   refine fC (p:=(c.ae.length:Int)<=(i:Int)) (fun q=>?_) fun q=>?_
   ·rw[show v8 c.ae (some i)=.na from by show c.ae.getD i .na=_;rw[List.getD_eq_getElem?_getD,List.getElem?_eq_none (by lia)];rfl,KN] at aZ
    exact KM (ap f3 aZ)
   ·have e:item (.list (c.ae.map (dg c.kd))) (.int i)=some (dg c.kd (v8 c.ae (some i))):=h1 (Nat.le_of_lt (a3 i bc)) (by
     rw[List.getElem?_map,List.getElem?_eq_getElem (by lia:i<c.ae.length)]
     show _=some (dg c.kd (c.ae.getD i .na))
     rw[List.getD_eq_getElem?_getD,List.getElem?_eq_getElem (by lia:i<c.ae.length)];rfl)
    exact b6 e (ap f3 aZ)
 ·rw[yf,List.nil_append]
  unfold cG.pick ce at av
  rw[List.map_map] at av
  exact av
end
section
variable {w:World} {B:bC w}
noncomputable def vh:aU:=Run [36] [] (A7)
theorem Bk:bg B 3 iV vh:=by unfold vh;exact .run HH (H9 (n:=0))
noncomputable def Bb:aU:=Run [43] [] (Hx)
theorem SM:bg B 1 qi Bb:=by unfold Bb;exact .run QR (RJ)
noncomputable def A2:aU:=Run [44] [] (G8 Bb)
theorem Sb:bg B 2 p6 A2:=by unfold A2;exact .run Qo (Q8 SM)
noncomputable def Bl:aU:=Run [43,35,62] [] (H1 Bq)
theorem Tl:bg B 2 qs Bl:=by unfold Bl;exact .run Rv (Sx TR)
@[irreducible] noncomputable def vw:aU:=fun ds k=>At (Run [43,35,103,62] [] (IU AF Bl) ds k)
theorem Uq:bg B 3 qI vw:=by unfold vw;exact .wall (.run SZ (TI (Ql.le (by decide)) Tl))
noncomputable def Bc:aU:=Run [106,61] [] (Hy vh Cm)
theorem SN:bg B 4 qj Bc:=by unfold Bc;exact .run QS (RL Bk (Wi.le (by decide)))
noncomputable def gZ(acc:List Str)(t:Str):List Str:=if acc.contains t then acc else acc++[t]
noncomputable def gj(a b:List Str):List Str:=b.foldl gZ (a.foldl gZ [])
noncomputable def h4(acc:List Str):List D:=(List.range acc.length).map fun i:Nat=>D.int ((i+1:Nat):Int)
theorem I1(acc:List Str):(h4 acc).length=acc.length:=by simp[h4]
theorem Tm(acc:List Str)(t:Str):h4 (acc++[t])=h4 acc++[.int ((acc.length+1:Nat):Int)]:=by
 unfold h4;rw[List.length_append,List.length_cons,List.length_nil,Nat.zero_add,List.range_succ,List.map_append];rfl
theorem J0:∀(ks:List Str) (ae:List D) (t:Str),t∉ks->fS ks ae t=none
 | [],ae,t,Z=>by cases ae <;> rfl
 | k::ks,[],t,Z=>rfl
 | k::ks,v::ae,t,h=>by
  rw[mA]
  rw[if_neg (show ¬k=t from fun e=>by subst e;exact h (.head _)),J0 ks ae t fun q=>h (.tail _ q)]
theorem J1:∀(ks:List Str) (ae:List D) (t:Str),ks.length=ae.length->t∈ks->fS ks ae t=ae[ks.idxOf t]?
 | k::ks,v::ae,t,aF,h=>by
  rw[mA]
  by_cases q:k=t
  ·subst q;rw[if_pos rfl,List.idxOf_cons_self];rfl
  ·rw[if_neg q,List.idxOf_cons,show (k==t)=false by simpa using q,cond_false,List.getElem?_cons_succ]
   exact J1 ks ae t (by simpa using aF) (by cases h with|head=>exact absurd rfl q|tail _ h=>exact h)
 | k::ks,[],t,aF,Z=>by simp at aF
theorem J2:∀(ks:List Str) (ae:List D) (t:Str) (d:D),ks.length=ae.length->t∉ks->dput ks ae t d=(ks++[t],ae++[d])
 | [],[],t,d,Z,bt=>rfl
 | k::ks,v::ae,t,d,aF,h=>by
  rw[oU]
  rw[if_neg (show ¬k=t from fun e=>by subst e;exact h (.head _)),J2 ks ae t d (by simpa using aF) fun q=>h (.tail _ q)];rfl
 | [],v::ae,t,d,aF,Z=>by simp at aF
 | k::ks,[],t,d,aF,Z=>by simp at aF
theorem J3{acc:List Str}{t:Str}(h:t∈acc):fS acc (h4 acc) t=some (.int (acc.idxOf t+1:Nat)):=by
 rw[J1 _ _ _ (I1 acc).symm h]
 unfold h4
 rw[List.getElem?_map,List.getElem?_range (List.idxOf_lt_length_of_mem h)];rfl
theorem Ur{acc:List Str}{t:Str}:MX (.str t) (.dict acc (h4 acc))=some (acc.contains t):=by
 show some (fS acc (h4 acc) t).isSome=_
 by_cases h:t∈acc
 ·rw[J3 h];simp[h]
 ·rw[J0 _ _ _ h];simp[h]
theorem J4(acc:List Str)(t:Str):(gZ acc t).length<=acc.length+1:=by
 unfold gZ;split <;> simp
theorem BF:∀(ts acc:List Str),(ts.foldl gZ acc).length<=acc.length+ts.length
 | [],acc=>Nat.le_refl _
 | t::ts,acc=>by have:=BF ts (gZ acc t);have:=J4 acc t;refine List.foldl_cons.symm▸List.length_cons.symm▸?_;lia
theorem Wl{acc:List Str}{t u:Str}:u∈gZ acc t↔u∈acc∨u=t:=by
 unfold gZ
 split
 ·rename_i q
  exact⟨.inl,fun h=>h.elim id fun e=>e▸(by simpa using q)⟩
 ·simp
theorem B1{u:Str}:∀(ts acc:List Str),u∈ts.foldl gZ acc↔u∈acc∨u∈ts
 | [],acc=>by simp
 | t::ts,acc=>by rw[List.foldl_cons,B1 ts,Wl,List.mem_cons,or_assoc]
theorem BG:∀(ts acc:List Str),ts.Nodup->ts.foldl gZ acc=acc++ts.filter fun t=>!acc.contains t
 | [],acc,Z=>by simp
 | t::ts,acc,h=>by
  refine bS (List.nodup_cons.mp h) fun aw ai=>?_
  rw[List.foldl_cons,BG ts _ ai,List.filter_cons]
  unfold gZ
  cases q:acc.contains t with
  | true=>refine(if_pos rfl).symm▸?_;rw[if_neg (by decide)]
  | false=>
   rw[if_neg (by decide),if_pos (by rfl),List.append_assoc]
   congr 1
   rw[List.cons_append,List.nil_append]
   congr 1
   apply List.filter_congr
   intro u de
   have:u≠t:=fun e=>aw (e▸de)
   simp[this]
theorem acd{a b:List Str}(bp:a.Nodup)(aS:b.Nodup):gj a b=a++b.filter fun t=>!a.contains t:=by
 have e:a.foldl gZ []=a:=by rw[BG a [] bp];simp
 unfold gj
 refine e.symm▸?_
 rw[BG b a aS]
theorem zb{a b:List Str}{u:Str}:u∈gj a b↔u∈a∨u∈b:=by unfold gj;rw[B1,B1];simp
noncomputable def zc(ls:List Str):bY->D|.s t=>.int (ls.idxOf t+1:Nat)|_=>.none
noncomputable def z2(ls:List Str):bY->Prop|.na=>True|.s t=>t∈ls|_=>False
theorem Us(ls:List Str)(ae:List bY)(h:∀v∈ae,z2 ls v):ae.map (zc ls)=ae.map (dg (.c1 ls)):=by
 apply List.map_congr_left
 intro v aP
 have:=h v aP
 cases v <;> first|rfl|exact this.elim
theorem ace{ks:List Str}{ds:List D}{s:Str}{d:D}(h:ks.length<=10000):stI (.dict ks ds) (.str s) d=some (.dict (dput ks ds s d).1 (dput ks ds s d).2):=if_pos h
noncomputable abbrev rk(a:List Str)(ae:List bY):D:=.vec "integer" (.list (ae.map (dg (.c1 a)))) (.dict ["levels","class"] [je (a.map .str),je [.str "factor"]])
theorem cG.Ok.le{c:cG}{n m:Nat}(h:c.Ok n)(hn:n<=m):c.Ok m:=⟨h.kd,Nat.le_trans h.len hn,h.ea⟩
@[irreducible] noncomputable def vH:lq:=fun ds k=>At (Ee [12] AV ds k)
theorem Sd:i2 B 1 kQ vH:=by unfold vH;exact .run Hh HI
theorem Va{a:List Str}{ae:List bY}{k:O->Prop}(av:k (.dict ["levels","class"] [je (a.map .str),je [.str "factor"]])):vH [rk a ae] k:=by
 unfold vH
 exact⟨fun p=>⟨rfl,⟨rfl,Eq.mpr (by kernel_rfl) av⟩⟩⟩
theorem fT{a:List Str}{ae:List bY}{k:D->Prop}(av:k (.bool true)):nH [rk a ae] k:=iO (c:=⟨.c1 a,ae⟩) av
theorem x7:bg B 10 iD nS:=Ys
@[irreducible] noncomputable def wv:aU:=fun ds k=>At (Run [73] [] (GD vh nH vH nS) ds k)
theorem QJ:bg B 11 pW wv:=by unfold wv;exact .wall (.run PR (Qd (n:=8) (Bk.le (by decide)) (yb.le (by decide)) (Sd.le (by decide)) x7))
noncomputable def aho:bh:=(ay (bF (eW (bl (ag 65) (au .none) (a6 kW)) (eW (o7 true (ag 65) 45) cg)) (ay (dG (dS 48 (aj (ag 65) az) (dd d9))) (ay (lP 45 (ag 65) (sL 48)) aJ)) aJ) aJ)
theorem J5{p q:Addr}{R:D}{x ps:D}{k:dM->aO->Prop}(ts:List Str)(acc:List Str)(a5:acc.length+ts.length<10000)(av:k .cx [(102,.aX R),(72,.aX x),(45,.mt q (.dict (ts.foldl gZ acc) (h4 (ts.foldl gZ acc)))),(48,.mt p (.list ((ts.foldl gZ acc).map .str))),(73,.aX ps)]):
  forL 65 [65] aho (ts.map .str) [(102,.aX R),(72,.aX x),(45,.mt q (.dict acc (h4 acc))),(48,.mt p (.list (acc.map .str))),(73,.aX ps)] k:=by
 refine nR (e:=D.str) (fun acc:List Str=>[(102,.aX R),(72,.aX x),(45,.mt q (.dict acc (h4 acc))),(48,.mt p (.list (acc.map .str))),(73,.aX ps)]) gZ (fun acc n=>acc.length+n<10000) (fun s a n h=>by have:=J4 s a;lia) ts acc a5 (fun acc n t ht a5 K R aZ=>?_) av
 have hm:=Option.some.inj (Ur (acc:=acc) (t:=t))
 cases h:acc.contains t with
 | true=>
  exact zt (b:=!(fS acc (h4 acc) t).isSome) (by exact congrArg _ (h▸hm)) ((show gZ acc t=acc from if_pos h)▸aZ)
 | false=>
  replace hm:=h▸hm
  rw[show gZ acc t=acc++[t] from if_neg (by rw[h];decide)] at aZ
  have eA:stI (.dict acc (h4 acc)) (.str t) (.int ((acc.map D.str++[D.str t]).length:Int))=some (.dict (acc++[t]) (h4 (acc++[t]))):=by
   rw[ace (by lia),show (acc.map D.str++[D.str t]).length=acc.length+1 by simp,(J2 acc (h4 acc) t (.int ((acc.length+1:Nat):Int)) (I1 acc).symm (by simpa using h)),Tm]
  rw[List.map_append] at aZ
  refine M0 (b:=!(fS acc (h4 acc) t).isSome) (by exact congrArg _ hm) ?_
  refine ap (by rw[List.length_map];lia) ?_
  refine tU (k:=(acc.map D.str++[D.str t]).length) (by rw[List.length_append,List.length_map];exact Nat.le_of_lt (by show acc.length+1<_;lia)) ?_
  refine Pq ?_
  refine q4 eA ?_
  exact aZ
noncomputable def ahp:bh:=(ay (dG (dS 11 (aj (dK (bl (ag 65) (au .none) (a6 ec)) (au .none) (ak (ag 45) (ag 65) (f2 item))) az) (dd d9))) aJ)
noncomputable def Pz(q:Addr)(ls:List Str)(V:V):Prop:=V=.mt q (.dict ls (h4 ls))∨V=.aX (.dict ls (h4 ls))
theorem J6{p q r:Addr}{ls:List Str}{x ps:D}{k:dM->aO->Prop}(ae:List bY):∀(acc:List bY) (V:V),Pz q ls V->(∀v∈ae,z2 ls v)->acc.length+ae.length<=10000->
  (∀V,Pz q ls V->k .cx [(72,.aX x),(11,.mt r (.list ((acc++ae).map (zc ls)))),(45,V),(48,.mt p (.list (ls.map .str))),(73,.aX ps)])->
  forL 65 [65] ahp (ae.map f6) [(72,.aX x),(11,.mt r (.list (acc.map (zc ls)))),(45,V),(48,.mt p (.list (ls.map .str))),(73,.aX ps)] k:=by
 induction ae with
 | nil=>intro acc V fu Z Z av;rw[List.append_nil] at av;exact av V fu
 | cons v ae PA=>
  intro acc V fu aP a5 av
  replace a5:=List.length_cons▸a5
  have f3:(acc.map (zc ls)).length<=10000:=by rw[List.length_map];lia
  have c9:=fun V fu=>PA (acc++[v]) V fu (fun u de=>aP u (.tail _ de)) (by rw[List.length_append,List.length_singleton];lia) (by rw[List.append_assoc];exact av)
  replace c9:=List.map_append▸c9
  have ho:=aP v (.head _)
  clear PA av a5 aP
  cases v with
  | na=>exact ap f3 (c9 V fu)
  | s t=>
   have e:=J3 ho
   rcases fu with rfl|rfl
   ·exact b6 e (ap f3 (c9 _ (.inr rfl)))
   ·exact b6 e (ap f3 (c9 _ (.inr rfl)))
  | _=>exact ho.elim
theorem lK{l:List D}(h:l.length<=10000):hp [.list l]=some (.list l):=if_pos h
theorem acf{a b:List Str}{xs ys:List bY}{k:D->Prop}(aE:cG.Ok 1000 ⟨.c1 a,xs⟩)(bj:cG.Ok 1000 ⟨.c1 b,ys⟩)(av:k (ce ⟨.c1 (gj a b),xs++ys⟩)):wv [.list [rk a xs,rk b ys]] k:=by
 have aiv:=aE.kd.2.2
 have aiw:=bj.kd.2.2
 have aD:=BF a []
 have ak:=BF b (a.foldl gZ [])
 replace aD:=List.length_nil▸aD
 have akf:(gj a b).length<=200:=by unfold gj;lia
 have ul:=aE.len
 have xW:=bj.len
 dsimp only at aiv aiw ul xW
 have OG:∀u∈xs,z2 (gj a b) u:=fun u de=>by
  have:=aE.ea u de
  cases u <;> first|trivial|exact zb.mpr (.inl this)|exact this.elim
 have OH:∀u∈ys,z2 (gj a b) u:=fun u de=>by
  have:=bj.ea u de
  cases u <;> first|trivial|exact zb.mpr (.inr this)|exact this.elim
 unfold wv
 refine⟨fun p q=>fT ?_⟩
 refine J5 a [] (by rw[List.length_nil];lia) (fT (J5 b (a.foldl gZ []) (by lia) fun r=>?_))
 refine sp (c:=⟨.c1 a,xs⟩) (aE.le (by decide)) (J6 (ls:=gj a b) (r:=r) xs [] _ (.inl rfl) OG (by exact eN ‹_›) fun V fu=>?_)
 skip
 refine sp (c:=⟨.c1 b,ys⟩) (bj.le (by decide)) (J6 (ls:=gj a b) (r:=r) ys xs V fu OH (by lia) fun V fu=>?_)
 refine Va fun s=>?_
 refine dA (lK (by rw[List.length_map];exact bO ‹_›)) (Pq ?_)
 exact(Us _ _ (fun v aP=>(List.mem_append.mp aP).elim (OG v) (OH v))).symm▸av
end
section
variable {w:World} {B:bC w}
@[irreducible] noncomputable def o2:aU:=fun ds k=>At (Run [106,43,62] [] (IV vw I0 Bc) ds k)
theorem Jl:bg B 5 nI o2:=by unfold o2;exact .wall (.run S0 (TJ (n:=2) (Uq.le (by decide)) (TU.le (by decide)) SN))
@[irreducible] noncomputable def wx:aU:=fun ds k=>At (Run [73] [] (GF o2 vh A2 nH wv sC nS) ds k)
theorem QK:bg B 12 pX wx:=by unfold wx;exact .wall (.run PS (Qe (n:=9) (Jl.le (by decide)) (Bk.le (by decide)) (Sb.le (by decide)) (yb.le (by decide)) QJ (Ic.le (by decide)) (x7.le (by decide))))
theorem Yt{v:bY}{k:D->Prop}(h:fF .int v)(av:k (dg .dbl v)):vw [.str "integer",dg .int v,.str "double",.list []] k:=by
 unfold vw
 constructor
 cases v with
 | na=>exact Eq.mpr (by kernel_rfl) av
 | i n=>exact Eq.mpr (by kernel_rfl) av
 | _=>exact h.elim
theorem KO{ae:List bY}{k:D->Prop}(a5:ae.length<=10000)(h:∀v∈ae,fF .int v)(av:k (.vec "double" (.list (ae.map (dg .dbl))) .none)):o2 [.vec "integer" (.list (ae.map (dg .int))) .none,.str "double",.list []] k:=by
 unfold o2
 exact⟨comp_map (e:=dg .int) (g:=dg .dbl) ae [] (by exact eN ‹_›) (fun v aP K aZ=>Yt (h v aP) aZ) (dA (lK (by rw[List.nil_append,List.length_map];exact a5)) av)⟩
theorem Wm{ae:List bY}{k:D->Prop}(a5:ae.length<=10000)(av:k (.vec "double" (.list (ae.map (dg .dbl))) .none)):o2 [.vec "double" (.list (ae.map (dg .dbl))) .none,.str "double",.list []] k:=by
 unfold o2
 exact⟨dA (lK (by rw[List.length_map];exact a5)) av⟩
inductive lw:eQ->eQ->eQ->Prop where
 | ii:lw .int .int .int
 | rV:lw .chr .chr .chr
 | id:lw .int .dbl .dbl
 | pO (a b:List Str):lw (.c1 a) (.c1 b) (.c1 (gj a b))
theorem um{a:Addr}{l m:List D}{k:D->List D->Prop}(h:l.length+m.length<=10000)(av:k .none (l++m)):a=a/\dd sk l [.list m] k:=⟨rfl,ab1 h av⟩
theorem acg{x y:cG}{z:eQ}{k:D->Prop}(h:lw x.kd y.kd z)(aE:x.Ok 1000)(bj:y.Ok 1000)(av:k (ce ⟨z,x.ae++y.ae⟩)):wx [.list [ce x,ce y]] k:=by
 obtain⟨cY,xs⟩:=x
 obtain⟨c4,ys⟩:=y
 have ul:=aE.len
 have xW:=bj.len
 have aN:=aE.ea
 dsimp only at h ul xW av aN
 unfold ce at av
 dsimp only at av
 replace av:=List.map_append▸av
 unfold wx
 constructor
 cases h with
 | pO a b=>exact iO (acf aE bj (by unfold ce;dsimp only;exact List.map_append.symm▸av))
 | ii=>exact iO fun a=>iO (ap (Nat.le_of_ble_eq_true rfl) (iO (ap (Nat.le_of_ble_eq_true rfl) fun b=>um (by simp;lia) (um (by simp;lia) (yz av)))))
 | rV=>exact iO fun a=>iO (ap (Nat.le_of_ble_eq_true rfl) (iO (ap (Nat.le_of_ble_eq_true rfl) fun b=>um (by simp;lia) (um (by simp;lia) (yz av)))))
 | id=>exact iO fun a=>iO (ap (Nat.le_of_ble_eq_true rfl) (iO (ap (Nat.le_of_ble_eq_true rfl) fun b=>KO (Nat.le_trans ul (by decide)) aN (um (by simp;lia) (um (by simp;lia) (yz av))))))
end
section
variable {w:World} {B:bC w}
noncomputable def iH:bY->Str|.i n=>"="++hX n|.s t=>"="++t|_=>"NA"
theorem CL{n:Int}(h:five.contains n=true):(hX n).length<=2:=by
 rcases so h with rfl|rfl|rfl|rfl|rfl <;> decide +kernel
theorem KP{t:Str}(h:t∈iW):t.length=1:=by
 have:∀t∈iW,t.length=1:=by decide +kernel
 exact this t h
theorem CM{t:Str}(h:t.length<=10):c7 (.str "=") (.str t)=some (.str ("="++t)):=by
 have e:c7 (.str "=") (.str t)=if ("=":Str).length+t.length<=100000 then some (.str ("="++t)) else none:=rfl
 have aw:("=":Str).length=1:=by decide +kernel
 rw[e,if_pos (by lia)]
noncomputable def er:bY->Prop|.na=>True|.i n=>five.contains n=true|.s t=>t∈iW|_=>False
theorem cG.Ok.er{N:Nat}{c:cG}(h:c.Ok N):∀v∈c.ae,Nz.Internal.er v:=fun v aP=>by
 have aw:=h.ea v aP
 obtain⟨kd,ae⟩:=c
 cases kd <;> cases v <;> first|trivial|exact aw|exact aw.elim|exact h.kd.2.1 _ aw
theorem vo:∀ts:List Str,strsOf (ts.map .str)=some ts
 | []=>rfl
 | t::ts=>congrArg (Option.map (t::·)) (vo ts)
theorem B2{xs:List Str}{s:Str}:oT (.list (xs.map .str)) [.str s]=some (.int (xs.countP (·==s):Nat)):=congrArg (Option.map fun xs:List Str=>D.int (xs.countP (·==s):Nat)) (vo xs)
theorem B3{xs:List Str}{s:Str}(h:xs.length<=10000):nQ (.list (xs.map .str)) [.str s]=(gm xs s).map fun j=>.int (j:Nat):=by show (strsOf _).bind _=_;rw[vo];exact if_pos h
noncomputable def nX(v:bY):Str:=Str.ofString (toString ((iH v).length:Int))++":"++iH v
noncomputable def h8(ae:List bY):Str:=Txt.join "" (ae.map nX)
theorem J7{n:Int}(P:bY->Prop)(h:five.contains n=true)(d:P (.i (-1))/\P (.i 0)/\P (.i 1)/\P (.i 2)/\P (.i 3)):P (.i n):=by
 rcases so h with rfl|rfl|rfl|rfl|rfl
 ·exact d.1
 ·exact d.2.1
 ·exact d.2.2.1
 ·exact d.2.2.2.1
 ·exact d.2.2.2.2
theorem KQ{v:bY}(h:er v):(iH v).length<=10/\(nX v).length<=10:=by
 cases v with
 | na=>decide +kernel
 | i n=>exact J7 (fun v=>(iH v).length<=10/\(nX v).length<=10) h (by decide +kernel)
 | s t=>
  have:∀t∈iW,(iH (.s t)).length<=10/\(nX (.s t)).length<=10:=by decide +kernel
  exact this t h
 | q n=>exact h.elim
theorem CN{α:Type}{f:α->Nat}{m:Nat}:∀(xs:List α),(∀a∈xs,f a<=m)->(xs.map f).sum<=m * xs.length
 | [],Z=>Nat.le_refl _
 | a::xs,h=>by
  have:=CN xs fun b aS=>h b (.tail _ aS)
  have:=h a (.head _)
  rw[List.map_cons,List.sum_cons,List.length_cons,Nat.mul_add];lia
theorem qO{ae:List bY}(h:∀v∈ae,er v)(i:Nat):er (ae.getD i .na):=by
 rw[List.getD_eq_getElem?_getD]
 cases e:ae[i]? with
 | none=>trivial
 | some v=>exact h v (List.mem_of_getElem? e)
theorem B4{s:Str}{xs:List Str}(h:(xs.map (·.length)).sum+xs.length * s.length<=100000):mL (.str s) [.list (xs.map .str)]=some (.str (Txt.join s xs)):=by
 show (strsOf _).bind _=_;rw[vo];exact if_pos h
theorem mz{α:Type}{f:α->D}{l:List α}{i:Nat}(z:α)(aN:i<l.length)(a5:l.length<=100000):item (.list (l.map f)) (.int i)=some (f (l.getD i z)):=h1 (by exact jc ‹_› ‹_›) (by rw[List.getElem?_map,List.getD_eq_getElem?_getD,List.getElem?_eq_getElem aN];rfl)
@[irreducible] noncomputable def wy:aU:=fun ds k=>At (Run [12] [] (Ha o2 r7 nH nS) ds k)
theorem Se:bg B 11 p8 wy:=by unfold wy;exact .wall (.run Qq (Rc (Jl.le (by decide)) (SK.le (by decide)) (yb.le (by decide)) x7))
@[irreducible] noncomputable def s7:aU:=fun ds k=>At (Run [13,84] [] (Iw wy) ds k)
theorem TV:bg B 12 qD s7:=by unfold s7;exact .wall (.run Su (Te Se))
theorem Mi{v:bY}{ρ:aO}{K:D->aO->Prop}(h:er v)(aZ:K (.str (iH v)) ((65,.aX (f6 v))::ρ)):
  dK (bl (ag 65) (au .none) (a6 ec)) (au (.str "NA")) (ak (au (.str "=")) (ag 65) (f2 c7)) ((65,.aX (f6 v))::ρ) K:=by
 cases v with
 | na=>exact aZ
 | i n=>exact b6 (CM (t:=hX n) (by have:=CL h;exact bO ‹_›)) aZ
 | s t=>exact b6 (CM (t:=t) (by have:=KP h;lia)) aZ
 | q n=>exact h.elim
theorem Mj{v:bY}{ρ:aO}{K:D->aO->Prop}(h:fF .dbl v)(aZ:K (.str (iH v)) ((65,.aX (dg .dbl v))::ρ)):
  dK (bl (ag 65) (au .none) (a6 ec)) (au (.str "NA")) (ak (au (.str "=")) (aT r7 (aj (ag 65) az)) (f2 c7)) ((65,.aX (dg .dbl v))::ρ) K:=by
 cases v with
 | na=>exact aZ
 | i n=>exact U8 h (b6 (CM (t:=hX n) (by have:=CL h;exact bO ‹_›)) aZ)
 | _=>exact h.elim
theorem ach{c:cG}{k:D->Prop}(h:c.Ok 1000)(av:k (.list (c.ae.map fun v=>.str (iH v)))):wy [ce c] k:=by
 have aP:=h.er
 have aF:=fun k=>sp (c:=c) (k:=k) (h.le (by decide))
 have a5:=h.len
 have aN:=h.ea
 obtain⟨kd,ae⟩:=c
 dsimp only at a5 aN aP
 have kN:([]:List D).length+ae.length<=10000:=by exact eN ‹_›
 unfold wy
 constructor
 cases kd with
 | int=>exact iO (KO (Nat.le_trans a5 (by decide)) aN (comp_map (e:=dg .dbl) (g:=fun v=>.str (iH v)) ae [] kN (fun v aP K aZ=>Mj (by have:=aN v aP;cases v <;> first|trivial|exact this|exact this.elim) aZ) av))
 | dbl=>exact iO (Wm (Nat.le_trans a5 (by decide)) (comp_map (e:=dg .dbl) (g:=fun v=>.str (iH v)) ae [] kN (fun v aP K aZ=>Mj (aN v aP) aZ) av))
 | chr=>exact iO (aF _ (comp_map (e:=f6) (g:=fun v=>.str (iH v)) ae [] kN (fun v h K aZ=>Mi (aP v h) aZ) av))
 | c1 a=>exact iO (aF _ (comp_map (e:=f6) (g:=fun v=>.str (iH v)) ae [] kN (fun v h K aZ=>Mi (aP v h) aZ) av))
theorem aci{cs:List cG}{n:Nat}{k:D->Prop}(aF:cs.length<=10)(hn:n<=1000)(bb:∀c∈cs,c.Ok 1000/\c.ae.length=n)(av:k (.list ((List.range n).map fun i=>.str (h8 (cs.map fun c=>c.ae.getD i .na))))):s7 [.list (cs.map ce),.int n] k:=by
 unfold s7
 refine⟨comp_map (e:=ce) (g:=fun c=>.list (c.ae.map fun v=>.str (iH v))) cs [] (by rw[List.length_nil];lia) (fun c h K aZ=>ach (bb c h).1 aZ) ?_⟩
 intro a
 refine dI (d0 (n:=n) (by lia)) ?_
 show forL 75 [75] _ (eR 0 n 1) _ _
 rw[hk]
 refine nR (e:=fun i:Nat=>D.int (i:Int)) (fun acc=>[(30,.mt a (.list acc)),(73,.aX (.list (cs.map fun c=>.list (c.ae.map fun v=>.str (iH v))))),(84,.aX (.int n)),(13,.aX (.list (cs.map ce)))]) (fun acc (i:Nat)=>acc++[D.str (h8 (cs.map fun c=>c.ae.getD i .na))]) (fun acc m=>acc.length+m<=10000) (fun s a n h=>by rw[List.length_append,List.length_singleton];lia) (List.range n) [] (by rw[List.length_nil,List.length_range];lia) (fun acc m i aN a5 K R aZ=>?_) ?_
 ·rw[List.mem_range] at aN
  refine comp_map (e:=fun c=>.list (c.ae.map fun v=>.str (iH v))) (g:=fun c=>.str (nX (c.ae.getD i .na))) cs [] (by rw[List.length_nil];lia) (fun c h K aZ=>?_) ?_
  ·refine bS (bb c h) fun fH c2=>?_
   have aw:=mz (f:=fun v=>D.str (iH v)) (l:=c.ae) (i:=i) .na (by lia) (by lia)
   have ai:=(KQ (qO fH.er i)).1
   exact b6 aw (dA (if_pos (by lia)) (Pp (b:=nP ((iH (c.ae.getD i .na)).length:Nat)) (lF.mpr (by lia)) (b6 aw (tU (by lia) aZ))))
  ·have aw:mL (.str "") [.list ((cs.map fun c=>nX (c.ae.getD i .na)).map .str)]=some (.str (h8 (cs.map fun c=>c.ae.getD i .na))):=by
    rw[B4]
    ·unfold h8;exact List.map_map.symm▸rfl
    ·have:=CN (f:=fun c:cG=>(nX (c.ae.getD i .na)).length) (m:=10) cs fun c h=>(KQ (qO (bb c h).1.er i)).2
     rw[(show ("":Str).length=0 from by decide +kernel),List.map_map]
     show (cs.map fun c:cG=>(nX (c.ae.getD i .na)).length).sum+_<=_
     lia
   exact nW (List.map_map▸aw) (ap (by lia) aZ)
 ·rw[yf,List.nil_append];exact av
end
section
variable {w:World} {B:bC w}
@[irreducible] noncomputable def vW:aU:=fun ds k=>At (Run [58] [] (KE) ds k)
theorem Wn:bg B 1 qV vW:=by unfold vW;exact .wall (.run U0 (Wd))
theorem Wo{x:Int}{k:D->Prop}(h:x<=1000000)(av:k (.int x)):vW [.int x] k:=by
 unfold vW
 exact⟨zt (b:=decide ((1000000:Int)<x)) (decide_eq_false (by lia)) av⟩
noncomputable abbrev c3:=Option Nat×Option Nat
noncomputable def fb(p:c3):D:=.tup [g9 p.1,g9 p.2]
noncomputable abbrev cq(xs:List Str):D:=.list (xs.map .str)
noncomputable def nN(keys others:List Str):List Nat:=(List.range keys.length).filter fun i=>!others.contains (keys.getD i "")
noncomputable def iq(m n:Nat):List c3:=(List.range n).flatMap fun j=>(List.range m).map fun i=>(some i,some j)
theorem Vb{m n:Nat}(h:n<=10000):fU (.int m) (.int n)=some (.int ((m * n:Nat):Int)):=by
 have e:fU (.int m) (.int n)=if nP (n:Int)=true then some (.int ((m:Int) * n)) else none:=rfl
 rw[e,if_pos (lF.mpr (by (first|lia|omega))),Int.natCast_mul]
theorem qP{α β:Type}{g:α->List β}{m:Nat}:∀(xs:List α),(∀a∈xs,(g a).length<=m)->(xs.flatMap g).length<=m * xs.length
 | [],Z=>Nat.le_refl _
 | a::xs,h=>by
  have:=qP xs fun b aS=>h b (.tail _ aS)
  have:=h a (.head _)
  rw[List.flatMap_cons,List.length_append,List.length_cons,Nat.mul_add];lia
theorem Bt{α β:Type}(g:α->List β):∀(xs:List α) (acc:List β),xs.foldl (fun s a=>s++g a) acc=acc++xs.flatMap g
 | [],acc=>(List.append_nil _).symm
 | a::xs,acc=>by rw[List.foldl_cons,Bt g xs,List.append_assoc,List.flatMap_cons]
theorem lL{n:Nat}{asg:D->aO->(aO->Prop)->Prop}{dr:List Nat}{cO:bh}{ρ:aO}{k:dM->aO->Prop}(h:im asg dr cO ((List.range n).map fun i:Nat=>D.int (i:Int)) ρ k):im asg dr cO (eR 0 n 1) ρ k:=by rw[hk];exact h
theorem mD{α:Type}{asg:D->aO->(aO->Prop)->Prop}{dr:List Nat}{cO:bh}{e:α->D}(P:List D->aO)(g:α->D){k:dM->aO->Prop}(xs:List α)(acc:List D)(a5:acc.length+xs.length<=10000)(hs:∀acc,∀a∈xs,acc.length<=10000->∀(K:aO->Prop) (R:V->aO->Prop),K (P (acc++[g a]))->asg (e a) (P acc) fun aY=>cO aY fun a8 ρ'=>match a8 with|.cx=>dO (kl dr ρ') (K (gb dr ρ'))|.dv v=>R v ρ')(av:k .cx (P (acc++xs.map g))):im asg dr cO (xs.map e) (P acc) k:=
 nR P (fun acc a=>acc++[g a]) (fun acc n=>acc.length+n<=10000) (fun s a n h=>by rw[List.length_append,List.length_singleton];lia) xs acc a5 (fun s n a bp h K R aZ=>hs s a bp (by lia) K R aZ) (by rw[yf];exact av)
@[irreducible] noncomputable def wz:aU:=fun ds k=>At (Run [26,89] [] (H4 vW) ds k)
theorem acj:bg B 2 qu wz:=by unfold wz;exact .wall (.run Ry (SC Wn))
theorem ack{m n:Nat}{k:D->Prop}(hm:m<=50)(hn:n<=50)(av:k (.list ((iq m n).map fb))):wz [.int m,.int n] k:=by
 have ajN:m * n<=50 * 50:=Nat.mul_le_mul hm hn
 unfold wz
 refine⟨b6 (Vb (m:=m) (n:=n) (by exact bO ‹_›)) (Wo (by exact EV ‹_›) fun a=>dI (d0 (n:=n) (by exact bO ‹_›)) (lL ?_))⟩
 refine nR (e:=fun i:Nat=>D.int (i:Int)) (fun acc=>[(71,.mt a (.list acc)),(89,.aX (.int n)),(26,.aX (.int m))]) (fun acc j=>acc++(List.range m).map fun i=>fb (some i,some j)) (fun acc c=>acc.length+c * 50<=2500) (fun s a n h=>by rw[List.length_append,List.length_map,List.length_range];lia) _ [] (by rw[List.length_nil,List.length_range];lia) (fun acc c j bL a5 K R aZ=>?_) ?_
 ·refine dI (d0 (n:=m) (by exact bO ‹_›)) (lL ?_)
  exact mD (e:=fun i:Nat=>D.int (i:Int)) (fun acc=>[(68,.aX (.int j)),(71,.mt a (.list acc)),(89,.aX (.int n)),(26,.aX (.int m))]) (fun i=>fb (some i,some j)) _ acc (by rw[List.length_range];lia) (fun acc i aN a5 K R aZ=>ap a5 aZ) aZ
 ·rw[Bt,List.nil_append]
  have e:((List.range n).flatMap fun j=>(List.range m).map fun i=>fb (some i,some j))=(iq m n).map fb:=by
   unfold iq;rw[List.map_flatMap];simp only[List.map_map];rfl
  exact e.symm▸av
theorem Cp{xs:List Str}{i:Nat}(aN:i<xs.length)(a5:xs.length<=100000):item (cq xs) (.int i)=some (.str (xs.getD i "")):=mz (f:=D.str) (l:=xs) "" aN a5
theorem qX{xs:List Str}(h:xs.length<=10000):c8 [cq xs]=some (.int xs.length):=(kX (by rw[List.length_map];exact h)).trans (by rw[List.length_map])
theorem BH:∀(ks:List Str) (ae:List D) (s:Str) (d:D) (t:Str),ks.length=ae.length->(fS (dput ks ae s d).1 (dput ks ae s d).2 t).isSome=(decide (s=t)||(fS ks ae t).isSome)/\(dput ks ae s d).1.length=(dput ks ae s d).2.length/\(dput ks ae s d).1.length<=ks.length+1
 | [],[],s,d,t,Z=>by
  refine⟨?_,rfl,Nat.le_refl _⟩
  by_cases q:s=t
  ·subst q;simp[sz,oU,mA,sj]
  ·simp[sz,oU,mA,sj,q]
 | k::ks,v::ae,s,d,t,aF=>by
  refine fW (BH ks ae s d t (by simpa using aF)) fun aw ai a3=>?_
  by_cases q:k=s
  ·subst q
   by_cases cK:k=t
   ·subst cK;simp[sz,oU,mA,sj];simpa using aF
   ·simp[sz,oU,mA,sj,cK];simpa using aF
  ·by_cases cK:k=t
   ·subst cK;simp[sz,oU,mA,sj,q];exact⟨ai,a3⟩
   ·simp[sz,oU,mA,sj,q,cK];exact⟨by simpa using aw,ai,a3⟩
 | [],v::ae,Z,bt,cD,aF=>by simp at aF
 | k::ks,[],Z,bt,cD,aF=>by simp at aF
noncomputable def putL(s:List Str×List D)(o:Str):List Str×List D:=dput s.1 s.2 o (.bool true)
theorem Jm(t:Str):∀(os:List Str) (s:List Str×List D),s.1.length=s.2.length->(fS (os.foldl putL s).1 (os.foldl putL s).2 t).isSome=(os.contains t||(fS s.1 s.2 t).isSome)
 | [],s,Z=>rfl
 | o::os,s,h=>by
  refine fW (BH s.1 s.2 o (.bool true) t h) fun aw ai Z=>?_
  have a3:=Jm t os (putL s o) ai
  rw[show (fS (putL s o).1 (putL s o).2 t).isSome=_ from aw] at a3
  refine List.foldl_cons.symm▸?_
  refine a3.symm▸?_
  rw[List.contains_cons]
  by_cases q:o=t
  ·subst q;simp
  ·have:(t==o)=false:=beq_eq_false_iff_ne.mpr fun e=>q e.symm
   simp[q,this]
@[irreducible] noncomputable def s8:aU:=fun ds k=>At (Run [42,69] [] (Hb) ds k)
theorem acl:bg B 1 p9 s8:=by unfold s8;exact .wall (.run Qr (Re))
theorem Mk{keys others:List Str}{k:D->Prop}(a5:keys.length<=9000)(ho:others.length<=9000)(av:k (.list ((nN keys others).map fun i:Nat=>.int i))):s8 [cq keys,cq others] k:=by
 unfold s8
 refine⟨fun a=>nR (e:=D.str) (fun s:List Str×List D=>[(45,.mt a (.dict s.1 s.2)),(69,.aX (cq others)),(42,.aX (cq keys))]) putL (fun s n=>s.1.length+n<=9000/\s.1.length=s.2.length) (fun s o n h=>?_) others ([],[]) ⟨by exact eN ‹_›,rfl⟩ (fun s n o Z h K R aZ=>?_) ?_⟩
 ·refine fW (BH s.1 s.2 o (.bool true) o h.2) fun Z ai a3=>?_
  refine⟨?_,ai⟩
  show (dput _ _ _ _).1.length+n<=_
  lia
 ·exact⟨rfl,q4 (if_pos (show s.1.length<=10000 by lia)) aZ⟩
 ·refine dA (qX (by exact bO ‹_›)) (dI (d0 (by exact bO ‹_›)) ?_)
  show fJ _ _ _ (eR 0 keys.length 1) _ _ _
  rw[hk]
  refine oO (e:=fun i:Nat=>D.int (i:Int)) (g:=fun i:Nat=>D.int (i:Int)) (p:=fun i=>!others.contains (keys.getD i "")) _ [] (by exact List.length_nil.symm▸List.length_range.symm▸(eN ‹_›)) (fun i aN K aZ=>?_) (fun i aN Z K aZ=>aZ) av
  rw[List.mem_range] at aN
  refine b6 (Cp aN (by exact bO ‹_›)) (q4 (d:=others.contains (keys.getD i "")) ?_ aZ)
  show some (fS _ _ _).isSome=_
  rw[Jm _ _ _ rfl]
  show some (_||false)=_
  rw[Bool.or_false]
noncomputable def o3:List Str->List (List D)->Str->List D
 | k::ks,l::ls,t=>if k=t then l else o3 ks ls t
 | Z,bt,cD=>[]
theorem qR{k:Str}{ks:List Str}{l:List D}{ls:List (List D)}{t:Str}:o3 (k::ks) (l::ls) t=if k=t then l else o3 ks ls t:=rfl
theorem IA:∀(ks:List Str) (ls:List (List D)) (t:Str),(fS ks (ls.map .list) t).getD (.list [])=.list (o3 ks ls t)
 | [],ls,t=>by cases ls <;> rfl
 | k::ks,[],t=>rfl
 | k::ks,l::ls,t=>by
  refine List.map_cons.symm▸?_;rw[mA,qR]
  split
  ·rfl
  ·exact IA ks ls t
theorem Jn{k:Str}{ks:List Str}{l:List D}{ls:List (List D)}{s:Str}{d:D}:e9 (k::ks) (l::ls) s d=if k=s then (k::ks,(l++[d])::ls) else (k::(e9 ks ls s d).1,l::(e9 ks ls s d).2):=by
 have e:gm (k::ks) s=if k=s then some 0 else (gm ks s).map (·+ 1):=rfl
 unfold e9
 refine e.symm▸?_
 by_cases q:k=s
 ·rw[if_pos q]
  refine(if_pos q).symm▸?_;rfl
 ·rw[if_neg q]
  refine(if_neg q).symm▸?_
  cases gm ks s <;> rfl
theorem Jo:∀(ks:List Str) (ls:List (List D)) (s:Str) (d:D) (t:Str),ks.length=ls.length->o3 (e9 ks ls s d).1 (e9 ks ls s d).2 t=if s=t then o3 ks ls t++[d] else o3 ks ls t
 | [],[],s,d,t,Z=>by
  by_cases q:s=t
  ·subst q;simp[e9,gm,qR];rfl
  ·simp[e9,gm,qR,q]
 | k::ks,l::ls,s,d,t,aF=>by
  refine Jn.symm▸?_
  by_cases q:k=s
  ·subst q
   refine(if_pos rfl).symm▸?_
   by_cases cK:k=t
   ·simp[qR,cK]
   ·simp[qR,cK]
  ·refine(if_neg q).symm▸?_
   by_cases cK:k=t
   ·subst cK
    have:¬s=k:=fun e=>q e.symm
    simp[qR,this]
   ·simp only[qR,if_neg cK];exact(Jo ks ls s d t (by simpa using aF))
 | [],l::ls,Z,bt,cD,aF=>by simp at aF
 | k::ks,[],Z,bt,cD,aF=>by simp at aF
theorem J8:∀(ks:List Str) (ls:List (List D)) (s:Str) (d:D) (m:Nat),ks.length=ls.length->(∀l∈ls,l.length<=m)->(e9 ks ls s d).1.length=(e9 ks ls s d).2.length/\(e9 ks ls s d).1.length<=ks.length+1/\∀l∈(e9 ks ls s d).2,l.length<=m+1
 | [],[],s,d,m,Z,bt=>⟨rfl,Nat.le_refl _,fun l aF=>by
  simp[e9,gm] at aF;subst aF;simp⟩
 | k::ks,l::ls,s,d,m,aF,hm=>by
  refine fW (J8 ks ls s d m (by simpa using aF) fun x aE=>hm x (.tail _ aE)) fun aw ai a3=>?_
  have ajO:=hm l (.head _)
  refine Jn.symm▸?_
  by_cases q:k=s
  ·rw[if_pos q]
   refine⟨by simpa using aF,by simp,fun x aE=>?_⟩
   cases aE with
   | head=>simp;lia
   | tail Z aE=>have:=hm x (.tail _ aE);lia
  ·rw[if_neg q]
   refine⟨by simp[aw],by simp;lia,fun x aE=>?_⟩
   cases aE with
   | head=>lia
   | tail Z aE=>exact a3 x aE
 | [],l::ls,Z,bt,cD,aF,et=>by simp at aF
 | k::ks,[],Z,bt,cD,aF,et=>by simp at aF
noncomputable def jf(ys:List Str)(m:Nat)(t:Str):List Nat:=(List.range m).filter fun j=>ys.getD j "" == t
theorem Ut(ys:List Str)(m:Nat)(t:Str):jf ys (m+1) t=if ys.getD m ""=t then jf ys m t++[m] else jf ys m t:=by
 unfold jf
 rw[List.range_succ,List.filter_append,List.filter_cons,List.filter_nil]
 by_cases q:ys.getD m ""=t
 ·rw[if_pos q,if_pos (by simpa using q)]
 ·rw[if_neg q,if_neg (by simpa using q),List.append_nil]
noncomputable def tab(ys:List Str)(m:Nat):List Str×List (List D):=(List.range m).foldl (fun s j=>e9 s.1 s.2 (ys.getD j "") (.int (j:Nat))) ([],[])
theorem B5(ys:List Str)(m:Nat):tab ys (m+1)=e9 (tab ys m).1 (tab ys m).2 (ys.getD m "") (.int (m:Nat)):=by
 unfold tab;rw[List.range_succ,List.foldl_append];rfl
structure acm(ys:List Str)(m:Nat):Prop where
 len:(tab ys m).1.length=(tab ys m).2.length
 ov:(tab ys m).1.length<=m
 F6:∀l∈(tab ys m).2,l.length<=m
 look:∀t,o3 (tab ys m).1 (tab ys m).2 t=(jf ys m t).map fun j:Nat=>.int j
theorem CO(ys:List Str):∀m,acm ys m
 | 0=>⟨rfl,Nat.le_refl _,(fun Z h=>nomatch h),fun t=>rfl⟩
 | m+1=>by
  obtain⟨gi,i4,kE,i5⟩:=CO ys m
  refine fW (J8 _ _ (ys.getD m "") (.int (m:Nat)) m gi kE) fun g1 g2 g3=>?_
  rw[<- B5] at g1 g2 g3
  refine⟨g1,by lia,g3,fun t=>?_⟩
  rw[B5,Jo _ _ _ _ _ gi,Ut,i5]
  split
  ·rw[List.map_append];rfl
  ·rfl
theorem yB{asg:D->aO->(aO->Prop)->Prop}{dr:List Nat}{cO:bh}(P:Nat->aO){k:dM->aO->Prop}(n:Nat)(hs:∀i,i<n->∀(K:aO->Prop) (R:V->aO->Prop),K (P (i+1))->asg (.int (i:Nat)) (P i) fun aY=>cO aY fun a8 ρ'=>match a8 with|.cx=>dO (kl dr ρ') (K (gb dr ρ'))|.dv v=>R v ρ')(av:k .cx (P n)):im asg dr cO ((List.range n).map fun i:Nat=>D.int (i:Int)) (P 0) k:=by
 have h:∀c m,m+c=n->im asg dr cO ((List.range' m c).map fun i:Nat=>D.int (i:Int)) (P m) k:=by
  intro c
  induction c with
  | zero=>
       intro m e;obtain rfl:m=n:=(‹_›)
       exact av
  | succ c c9=>intro m e;exact hs m (by lia) (fun ρ=>im asg dr cO ((List.range' (m+1) c).map fun i:Nat=>D.int (i:Int)) ρ k) _ (c9 (m+1) (by lia))
 exact List.range_eq_range'.symm▸(h n 0 (by exact Nat.add_comm _ _))
noncomputable def oW(xs ys:List Str):List c3:=(List.range xs.length).flatMap fun i=>(jf ys ys.length (xs.getD i "")).map fun j=>(some i,some j)
theorem B6(ys:List Str)(m:Nat)(t:Str):(jf ys m t).length<=m:=by
 have:=List.length_filter_le (fun j=>ys.getD j "" == t) (List.range m)
 rw[List.length_range] at this;exact this
theorem I2(xs ys:List Str):(oW xs ys).length<=ys.length * xs.length:=by
 have:=qP (g:=fun i=>(jf ys ys.length (xs.getD i "")).map fun j=>((some i,some j):c3)) (m:=ys.length) (List.range xs.length) fun i Z=>by rw[List.length_map];exact B6 _ _ _
 rw[List.length_range] at this;exact this
@[irreducible] noncomputable def wA:lq:=fun ds k=>At (Ee [111,116] (GH) ds k)
theorem acn:i2 B 1 pY wA:=by unfold wA;exact .run PT (Qg)
noncomputable abbrev z3(c:Bool)(a b:Addr)(xs ys:List Str)(acc:List D):aO:=[(71,.mt b (.list acc)),(98,bif c then .aX (.dict (tab ys ys.length).1 ((tab ys ys.length).2.map .list)) else .mt a (.hl (tab ys ys.length).1 (tab ys ys.length).2)),(116,.aX (cq ys)),(111,.aX (cq xs))]
theorem aco{c:Bool}{a b:Addr}{xs ys:List Str}{acc:List D}{i:Nat}{K:D->aO->Prop}(aN:i<xs.length)(aE:xs.length<=50)(aZ:K (.list ((jf ys ys.length (xs.getD i "")).map fun j:Nat=>.int j)) ((75,.aX (.int i))::z3 true a b xs ys acc)):
  iF (ag 98) 2 (aj (ak (ag 111) (ag 75) (f2 item)) (aj (eList az) az)) (ft wp) ((75,.aX (.int i))::z3 c a b xs ys acc) K:=by
 rw[<- (CO ys _).look,<- IA] at aZ
 cases c <;> exact b6 (Cp aN (by exact bO ‹_›)) aZ
theorem acp{xs ys:List Str}{k:O->Prop}(aE:xs.length<=50)(bj:ys.length<=50)(av:k (.list ((oW xs ys).map fb))):wA [cq xs,cq ys] k:=by
 unfold wA
 refine⟨fun a=>dA (qX (by exact bO ‹_›)) (dI (d0 (by exact bO ‹_›)) (lL ?_))⟩
 refine yB (fun m=>[(98,.mt a (.hl (tab ys m).1 (tab ys m).2)),(116,.aX (cq ys)),(111,.aX (cq xs))]) _ (fun m hm K R aZ=>?_) fun b=>?_
 ·obtain⟨gi,i4,kE,_⟩:=CO ys m
  rw[B5] at aZ
  exact b6 (Cp hm (by exact bO ‹_›)) ⟨rfl,gi,by lia,List.all_eq_true.mpr fun l aF=>decide_eq_true (by have:=kE l aF;lia),aZ⟩
 ·refine dA (qX (by exact bO ‹_›)) (dI (d0 (by exact bO ‹_›)) (lL ?_))
  refine nR (e:=fun i:Nat=>D.int (i:Int)) (fun s:Bool×List D=>z3 s.1 a b xs ys s.2) (fun s i=>(true,s.2++(jf ys ys.length (xs.getD i "")).map fun j=>fb (some i,some j))) (fun s n=>s.2.length+n * 50<=2500) (fun s i n h=>?_) _ (false,[]) (by rw[List.length_range];show 0+_<=_;lia) (fun s n i aN a5 K R aZ=>?_) ?_
  ·have:=B6 ys ys.length (xs.getD i "")
   simp only[List.length_append,List.length_map];lia
  ·rw[List.mem_range] at aN
   have:=B6 ys ys.length (xs.getD i "")
   exact aco aN aE (mD (e:=fun i:Nat=>D.int (i:Int)) (fun acc=>(75,.aX (.int i))::z3 true a b xs ys acc) (fun j=>fb (some i,some j)) (jf ys ys.length (xs.getD i "")) s.2 (by lia) (fun acc i aN a5 K R aZ=>ap a5 aZ) aZ)
  ·have h:∀(l:List Nat) (s:Bool×List D),(l.foldl (fun(s:Bool×List D) i=>(true,s.2++(jf ys ys.length (xs.getD i "")).map fun j=>fb (some i,some j))) s).2=s.2++l.flatMap fun i=>(jf ys ys.length (xs.getD i "")).map fun j=>fb (some i,some j):=fun l=>by
    induction l with
    | nil=>intro s;exact(List.append_nil _).symm
    | cons i l c9=>intro s;rw[List.foldl_cons,c9,List.append_assoc,List.flatMap_cons]
   have e:(oW xs ys).map fb=(List.range xs.length).flatMap fun i=>(jf ys ys.length (xs.getD i "")).map fun j=>fb (some i,some j):=by
    unfold oW;rw[List.map_flatMap];simp only[List.map_map];rfl
   rw[e,<- List.nil_append (List.flatMap _ _),<- h _ (false,[])] at av
   exact av
noncomputable def v9(l:List Nat):List c3:=l.map fun i=>(some i,none)
noncomputable def wa(l:List Nat):List c3:=l.map fun i=>(none,some i)
noncomputable def qY(xs ys:List Str)(ax bH:Bool):List c3:=oW xs ys++(if ax then v9 (nN xs ys) else [])++(if bH then wa (nN ys xs) else [])
theorem yg(xs ys:List Str):(nN xs ys).length<=xs.length:=by
 have:=List.length_filter_le (fun i=>!ys.contains (xs.getD i "")) (List.range xs.length)
 rw[List.length_range] at this;exact this
@[irreducible] noncomputable def wB:aU:=fun ds k=>At (Run [111,116,2,3] [] (GX s8 wA) ds k)
theorem acq:bg B 2 p2 wB:=by unfold wB;exact .wall (.run P9 (QF acl acn))
theorem acr{xs ys:List Str}{ax bH:Bool}{k:D->Prop}(aE:xs.length<=50)(bj:ys.length<=50)(av:k (.list ((qY xs ys ax bH).map fb))):wB [cq xs,cq ys,.bool ax,.bool bH] k:=by
 have akg:=I2 xs ys
 have ajP:ys.length * xs.length<=50 * 50:=Nat.mul_le_mul bj aE
 have ul:=yg xs ys
 have xW:=yg ys xs
 unfold qY v9 wa at av
 rw[List.map_append,List.map_append] at av
 unfold wB
 refine⟨acp aE bj fun a=>?_⟩
 have ai:∀{acc:List D} {ρ:aO},acc.length<=3000->ρ=[(71,.mt a (.list acc)),(3,.aX (.bool bH)),(2,.aX (.bool ax)),(116,.aX (cq ys)),(111,.aX (cq xs))]->k (.list (acc++(if bH then (nN ys xs).map fun i=>((none,some i):c3) else []).map fb))->
   (ay (bF (dy (ag 3)) (ay (dF 75 [75] (aT s8 (aj (ag 116) (aj (ag 111) az))) (ay (dG (dS 71 (aj (dN (aj (au .none) (aj (ag 75) az))) az) (dd d9))) aJ)) aJ) aJ) (ay (jx 71) aJ)) ρ (sV k):=by
  intro acc ρ a5 e av
  subst e
  cases bH with
  | false=>rw[if_neg Bool.false_ne_true,List.map_nil,List.append_nil] at av;exact av
  | true=>
   rw[if_pos rfl,List.map_map] at av
   exact Mk (by exact bO ‹_›) (by exact bO ‹_›) (mD (e:=fun i:Nat=>D.int (i:Int)) (fun acc=>[(71,.mt a (.list acc)),(3,.aX (.bool true)),(2,.aX (.bool ax)),(116,.aX (cq ys)),(111,.aX (cq xs))]) (fun i=>fb (none,some i)) _ acc (by lia) (fun acc i aN a5 K R aZ=>ap a5 aZ) av)
 cases ax with
 | false=>rw[if_neg Bool.false_ne_true,List.map_nil,List.append_nil] at av;exact ai (by rw[List.length_map];exact ra ‹_› ‹_›) rfl av
 | true=>
  rw[if_pos rfl,List.map_map] at av
  exact Mk (by exact bO ‹_›) (by exact bO ‹_›) (mD (e:=fun i:Nat=>D.int (i:Int)) (fun acc=>[(71,.mt a (.list acc)),(3,.aX (.bool bH)),(2,.aX (.bool true)),(116,.aX (cq ys)),(111,.aX (cq xs))]) (fun i=>fb (some i,none)) _ _ (by rw[List.length_map];lia) (fun acc i aN a5 K R aZ=>ap a5 aZ) (ai (by rw[List.length_append,List.length_map,List.length_map];lia) rfl av))
end
section
variable {w:World} {B:bC w}
noncomputable abbrev kb(cols names:List D)(gT:D):D:=.vec "list" (.list cols) (.dict ["names","class","row.names"] [je names,je [.str "data.frame"],gT])
@[irreducible] noncomputable def wC:aU:=fun ds k=>At (Run [106] [] (BV) ds k)
theorem acs:bg B 1 mC wC:=by unfold wC;exact .wall (.run Ji (JY))
@[irreducible] noncomputable def s9:aU:=fun ds k=>At (Run [36] [] (A7) ds k)
theorem Ml:bg B 3 iV s9:=by unfold s9;exact .wall (.run HH (H9 (n:=0)))
@[irreducible] noncomputable def wD:aU:=fun ds k=>At (Run [36] [] (IT) ds k)
theorem act:bg B 3 qH wD:=by unfold wD;exact .wall (.run SY (TH (n:=0)))
theorem Vc{c:cG}{k:D->Prop}(av:k (ce c)):wC [ce c] k:=by
 unfold wC
 exact⟨Eq.mpr (by kernel_rfl) av⟩
theorem yC{l:List D}{k:D->Prop}(a5:l.length<=10000)(av:k (je l)):s9 [.list l] k:=by
 unfold s9
 exact⟨dA (lK a5) av⟩
theorem Yu{l:List D}{k:D->Prop}(a5:l.length<=10000)(av:k (.vec "integer" (.list l) .none)):wD [.list l] k:=by
 unfold wD
 exact⟨dA (lK a5) av⟩
@[irreducible] noncomputable def wE:aU:=fun ds k=>At (Run [13,61,83] [] (H3 s9 wC) ds k)
theorem acu:bg B 4 qt wE:=by unfold wE;exact .wall (.run Rx (SA (n:=1) Ml (acs.le (by decide))))
theorem Mm{cs:List cG}{names:List D}{gT:D}{k:D->Prop}(aw:cs.length<=10000)(ai:names.length<=10000)(av:k (kb (cs.map ce) names gT)):wE [.list (cs.map ce),.list names,gT] k:=by
 unfold wE
 exact⟨comp_map (e:=ce) (g:=ce) cs [] (by exact eN ‹_›) (fun c Z K aZ=>Vc aZ) fun a=>yC ai (yC (l:=[.str "data.frame"]) (by decide) av)⟩
noncomputable def wc(n:Nat):D:=.vec "integer" (.list ((List.range n).map fun i:Nat=>D.int (1+(i:Int)))) .none
@[irreducible] noncomputable def wF:aU:=fun ds k=>At (Run [14] [] (HB wD) ds k)
theorem acv:bg B 4 qn wF:=by unfold wF;exact .wall (.run QW (RV act))
theorem zy{n:Nat}(h:n<=10000):sx [.int 1,.int ((n:Int)+1)]=some (.hA 1 (1+(n:Int)) 1):=by
 exact(show (n:Int)+1=1+(n:Int) by exact Int.add_comm ..).symm▸(Ly (by decide) (by decide) (by exact bO ‹_›))
theorem Mo{n:Nat}{k:D->Prop}(h:n<=10000)(av:k (wc n)):wF [.int n] k:=by
 unfold wF
 exact⟨dI (zy h) (dA (yi h) (Yu (by rw[List.length_map,List.length_range];exact h) av))⟩
@[irreducible] noncomputable def ta:aU:=fun ds k=>At (Run [17] [] (HC) ds k)
theorem acw:bg B 1 qo ta:=by unfold ta;exact .wall (.run QX (RW))
theorem acx{cols names l:List D}{kd:Str}{t:D}{k:D->Prop}(h:l.length<=10000)(av:k (.int l.length)):ta [kb cols names (.vec kd (.list l) t)] k:=by
 unfold ta
 exact⟨dA (kX h) av⟩
theorem CP{s:Str}{xs:List Str}:mem (.str s) (cq xs)=some (xs.any (·==s)):=by
 show (strsOf (xs.map .str)).map _=_;rw[vo];rfl
theorem Wp{s:Str}{xs:List Str}:ip (.str s) (cq xs)=some (!xs.any (·==s)):=by
 show (mem (.str s) (cq xs)).map _=_;rw[CP];rfl
theorem yc:∀{xs:List Str} {s:Str},s∈xs->gm xs s=some (xs.idxOf s)
 | x::xs,s,h=>by
  unfold gm
  by_cases q:x=s
  ·subst q;rw[if_pos rfl,List.idxOf_cons_self]
  ·rw[if_neg q,List.idxOf_cons,show (x==s)=false by simpa using q,cond_false,yc (by cases h with|head=>exact absurd rfl q|tail _ h=>exact h)];rfl
@[irreducible] noncomputable def wG:aU:=fun ds k=>At (Run [106] [] (Bh yn oQ) ds k)
theorem acy:bg B 3 my wG:=by unfold wG;exact .wall (.run H7 (Iz JZ (sb.le (by decide))))
theorem acz{cols:List D}{names:List Str}{gT:D}{k:D->Prop}(a5:names.length<=10000)(av:k (cq names)):wG [kb cols (names.map .str) gT] k:=by
 unfold wG
 exact⟨dA (f:=hp) (d:=cq names) (lK (by rw[List.length_map];exact a5)) av⟩
@[irreducible] noncomputable def rl:aU:=fun ds k=>At (Run [17] [] (GW wG) ds k)
theorem DL:bg B 4 nz rl:=by unfold rl;exact .wall (.run P8 (QE acy))
theorem sP{cols:List D}{names:List Str}{gT:D}{k:D->Prop}(a5:names.length<=10000)(av:k (cq names)):rl [kb cols (names.map .str) gT] k:=by
 unfold rl
 exact⟨acz a5 (comp_map (e:=D.str) (g:=D.str) names [] (by exact eN ‹_›) (fun Z Z Z aZ=>aZ) av)⟩
end
section
variable {w:World} {B:bC w}
@[irreducible] noncomputable def td:aU:=fun ds k=>At (Run [17,7] [] (Ix rl) ds k)
theorem acA:bg B 5 oP td:=by unfold td;exact .wall (.run H8 (Tf DL))
theorem DM{cols:List D}{names dh:List Str}{gT:D}{k:D->Prop}(a5:names.length<=10000)(aS:dh.length<=10000)(bb:∀b∈dh,names.countP (·==b)=1)(av:k (.list (dh.map fun b=>.int (names.idxOf b:Nat)))):td [kb cols (names.map .str) gT,cq dh] k:=by
 unfold td
 refine⟨sP a5 fun a=>mD (e:=D.str) (fun acc=>[(76,.mt a (.list acc)),(61,.aX (cq names)),(7,.aX (cq dh)),(17,.aX (kb cols (names.map .str) gT))]) (fun b=>.int (names.idxOf b:Nat)) dh [] (by exact eN ‹_›) (fun acc b tE f3 K R aZ=>?_) av⟩
 have aw:oT (cq names) [.str b]=some (.int 1):=B2.trans (by rw[bb b tE];rfl)
 have FD:b∈names:=by
  refine aW (List.countP_pos_iff.mp (by have:=bb b tE;lia:0<names.countP (·==b))) fun x aE e=>?_
  have:x=b:=by simpa using e
  exact this▸aE
 have ai:nQ (cq names) [.str b]=some (.int (names.idxOf b:Nat)):=(B3 a5).trans (by rw[yc FD];rfl)
 exact nW aw (nW ai (ap f3 aZ))
noncomputable def vX(names others dh:List Str)(k9:Str):List Str:=names.flatMap fun n=>if dh.any (·==n) then [] else [if others.any (·==n) then n++k9 else n]
theorem vp:∀(names others dh:List Str) (k9:Str),(vX names others dh k9).length<=names.length
 | [],Z,bt,cD=>Nat.le_refl _
 | n::names,others,dh,k9=>by
  have:=vp names others dh k9
  unfold vX at this ⊢
  rw[List.flatMap_cons,List.length_append,List.length_cons]
  split <;> simp only[List.length_cons,List.length_nil] <;> omega
@[irreducible] noncomputable def wH:aU:=fun ds k=>At (Run [61,69,7,96] [] (Hc) ds k)
theorem acB:bg B 1 qa wH:=by unfold wH;exact .wall (.run Qs (Rg))
theorem zf{names others dh:List Str}{k9:Str}{k:D->Prop}(a5:names.length<=1000)(hs:∀n∈names,n.length+k9.length<=1000)(av:k (cq (vX names others dh k9))):wH [cq names,cq others,cq dh,.str k9] k:=by
 unfold wH
 refine⟨fun a=>nR (e:=D.str) (fun acc:List Str=>[(30,.mt a (.list (acc.map .str))),(96,.aX (.str k9)),(7,.aX (cq dh)),(69,.aX (cq others)),(61,.aX (cq names))]) (fun acc n=>acc++if dh.any (·==n) then [] else [if others.any (·==n) then n++k9 else n]) (fun acc m=>acc.length+m<=1000) (fun s b n h=>?_) names [] (by exact eN ‹_›) (fun acc m b aS f3 K R aZ=>?_) ?_⟩
 ·refine List.length_append.symm▸?_;split <;> simp only[List.length_cons,List.length_nil] <;> lia
 ·have z:(acc.map D.str).length<=10000:=by rw[List.length_map];lia
  have xX:=Wp (s:=b) (xs:=dh)
  have uo:=CP (s:=b) (xs:=others)
  rw[List.map_append] at aZ
  cases q:dh.any (·==b) with
  | true=>
   rw[q] at xX aZ
   rw[if_pos rfl,List.map_nil,List.append_nil] at aZ
   exact il xX aZ
  | false=>
   rw[q] at xX aZ
   replace aZ:=(if_neg Bool.false_ne_true)▸aZ
   cases cK:others.any (·==b) with
   | true=>
    rw[cK] at uo aZ
    exact il xX (il uo (b6 (if_pos (show b.length+k9.length<=100000 by have:=hs b aS;exact bO ‹_›)) (ap z aZ)))
   | false=>
    rw[cK] at uo aZ
    exact il xX (il uo (ap z aZ))
 ·rw[Bt];exact av
noncomputable def tf(n:Nat):c3->Nat|(some i,_)=>i|(none,some j)=>n+j|(none,none)=>0
noncomputable def gy(m n:Nat):c3->Prop|(some i,some j)=>i<m/\j<n|(some i,none)=>i<m|(none,some j)=>j<n|(none,none)=>False
noncomputable def Eo(x y:cG)(z:eQ)(ps:List c3):cG:=(cG.mk z (x.ae++y.ae)).pick (ps.map fun p=>some (tf x.ae.length p))
@[irreducible] noncomputable def wI:aU:=fun ds k=>At (Run [110,115,71] [] (HE wx nT) ds k)
theorem acC:bg B 13 qp wI:=by unfold wI;exact .wall (.run QZ (R0 QK (Id.le (by decide))))
theorem acD{x y:cG}{z:eQ}{ps:List c3}{k:D->Prop}(bL:lw x.kd y.kd z)(aE:x.Ok 1000)(bj:y.Ok 1000)(a5:ps.length<=5000)(bc:∀p∈ps,gy x.ae.length y.ae.length p)(av:k (ce (Eo x y z ps))):wI [ce x,ce y,.list (ps.map fb)] k:=by
 have hn:=aE.len
 have hm:=bj.len
 unfold wI
 refine⟨acg bL aE bj (dA ((kX (by rw[List.length_map];exact bO ‹_›)).trans (by rw[List.length_map])) fun a=>?_)⟩
 refine mD (e:=fb) (fun acc=>[(76,.mt a (.list acc)),(14,.aX (.int x.ae.length)),(38,.aX (ce ⟨z,x.ae++y.ae⟩)),(71,.aX (.list (ps.map fb))),(115,.aX (ce y)),(110,.aX (ce x))]) (fun p=>g9 (some (tf x.ae.length p))) ps [] (by exact eN ‹_›) (fun acc p pw f3 K R aZ=>?_) ?_
 ·obtain⟨_|i,_|j⟩:=p
  ·exact(bc _ pw).elim
  ·exact ap f3 aZ
  ·exact ap f3 aZ
  ·exact ap f3 aZ
 ·have e:(ps.map fun p=>g9 (some (tf x.ae.length p)))=(ps.map fun p=>some (tf x.ae.length p)).map g9:=by rw[List.map_map];rfl
  rw[List.nil_append,e]
  refine yA (by rw[List.length_append];lia) (by rw[List.length_map];exact bO ‹_›) (fun i aN=>?_) av
  refine cps fun ed bR=>?_
  refine aW (List.mem_map.mp aN) fun p pw e=>?_
  have e:=Option.some.inj e
  have:=bc p pw
  obtain⟨aH,aK⟩:=p
  refine bR ?_
  clear bR
  cases aH <;> cases aK <;> simp only[tf,gy] at this e <;> lia
noncomputable def kf(c:cG):D:=.vec (m8 c.kd) (.list (c.ae.map (dg c.kd))) .none
@[irreducible] noncomputable def wJ:aU:=fun ds k=>At (Run [12] [] (Iy) ds k)
theorem acE:bg B 3 qE wJ:=by unfold wJ;exact .wall (.run Sv (Tg (n:=0)))
theorem Mp{c:cG}{k:D->Prop}(av:k (kf c)):wJ [ce c] k:=by
 unfold wJ
 exact⟨Eq.mpr (by kernel_rfl) av⟩
noncomputable def ki:bY->Str|.i n=>hX n|.s t=>t|_=>"NA"
noncomputable def o4(ae:List bY):Str:=Txt.join "\x0d" (ae.map ki)
inductive rW:Bool->List cG->List D->Prop where
 | keys (cs:List cG):rW true cs (cs.map kf)
 | one (c:cG) (h:c.kd.fT=false):rW false [c] [kf c]
 | c1 (c:cG) (h:c.kd.fT=true):rW false [c] [je (c.ae.map f6)]
 | two (c d:cG) (h:d.ae.length=c.ae.length):rW false [c,d] [je ((List.range c.ae.length).map fun i=>.str (o4 [c.ae.getD i .na,d.ae.getD i .na]))]
theorem M6{v:bY}{ρ:aO}{K:D->aO->Prop}(h:er v)(aZ:K (.str (ki v)) ((72,.aX (f6 v))::ρ)):dK (bl (ag 72) (au .none) (a6 ec)) (au (.str "NA")) (ag 72) ((72,.aX (f6 v))::ρ) K:=by
 cases v with
 | q n=>exact h.elim
 | _=>exact aZ
theorem B7:∀v,er v->(ki v).length<=2:=fun v aP=>by
 cases v with
 | na=>decide +kernel
 | i n=>exact CL aP
 | s t=>have:=KP aP;show t.length<=2;lia
 | q n=>exact aP.elim
theorem Vd{u v:bY}(aw:er u)(ai:er v):mL (.str "\x0d") [.list [.str (ki u),.str (ki v)]]=some (.str (o4 [u,v])):=
 B4 (s:="\x0d") (xs:=[ki u,ki v]) (by
  have:=B7 _ aw
  have:=B7 _ ai
  simp only[List.map_cons,List.map_nil,List.sum_cons,List.sum_nil,List.length_cons,List.length_nil,(show ("\x0d":Str).length=1 from by decide +kernel)]
  lia)
@[irreducible] noncomputable def o9:aU:=fun ds k=>At (Run [13,8] [] (Hd s9 nH nS wJ) ds k)
theorem acF:bg B 11 qb o9:=by unfold o9;exact .wall (.run Qt (Rh (Ml.le (by decide)) (yb.le (by decide)) x7 (acE.le (by decide))))
theorem acG{b:Bool}{cs:List cG}{r:List D}{k:D->Prop}(hm:rW b cs r)(a5:cs.length<=10)(bb:∀c∈cs,c.Ok 5000)(av:k (.list r)):o9 [.list (cs.map ce),.bool b] k:=by
 unfold o9
 constructor
 cases hm with
 | keys=>exact comp_map (e:=ce) (g:=kf) cs [] (by exact eN ‹_›) (fun c h K aZ=>Mp aZ) av
 | one c h=>exact iO (M0 (b:=!c.kd.fT) (by exact congrArg _ h) (Mp av))
 | c1 c h=>
  have aF:=(bb c (.head _)).len
  exact iO (zt (b:=!c.kd.fT) (by exact congrArg _ h) (sp ((bb c (.head _)).le (by decide)) (yC (by rw[List.length_map];exact bO ‹_›) av)))
 | two c d h=>
  have aF:=(bb c (.head _)).len
  refine fun a=>sp ((bb c (.head _)).le (by decide)) (sp ((bb d (.tail _ (.head _))).le (by decide)) (dA ((kX (by rw[List.length_map];exact bO ‹_›)).trans (by rw[List.length_map])) (dI (d0 (by exact bO ‹_›)) (lL ?_))))
  refine mD (e:=fun i:Nat=>D.int (i:Int)) (fun acc=>[(102,.aX (.list [.list (c.ae.map f6),.list (d.ae.map f6)])),(84,.mt a (.list acc)),(8,.aX (.bool false)),(13,.aX (.list [ce c,ce d]))]) (fun i=>.str (o4 [c.ae.getD i .na,d.ae.getD i .na])) _ [] (by exact List.length_nil.symm▸List.length_range.symm▸(eN ‹_›)) (fun acc i aN f3 K R aZ=>?_) (yC (by rw[List.nil_append,List.length_map,List.length_range];exact bO ‹_›) av)
  rw[List.mem_range] at aN
  have uq:=qO ((bb c (.head _)).er) i
  have PB:=qO ((bb d (.tail _ (.head _))).er) i
  exact b6 (mz (f:=f6) (l:=c.ae) (i:=i) .na (‹_›) (by exact bO ‹_›)) (b6 (mz (f:=f6) (l:=d.ae) (i:=i) .na (by exact pk ‹_› ‹_›) (by exact g0 ‹_› ‹_›)) (M6 uq (M6 PB (nW (Vd uq PB) (ap f3 aZ)))))
end
section
variable {w:World} {B:bC w}
noncomputable abbrev kj:=List (List Nat)
noncomputable def ct:D->List Nat
 | .int n=>[0,(n+1).toNat]|.tup [.int n,.int 1]=>[0,(n+1).toNat]|.str s=>0::s.cps.toList|_=>[1]
noncomputable def eL{α:Type}[LT α][DecidableLT α](a b:α):Int:=if a<b then -1 else if b<a then 1 else 0
theorem wd{α:Type}[LT α][DecidableLT α]{p q:Prop}[Decidable p][Decidable q]{a b:α}(aw:a<b↔p)(ai:b<a↔q):eL a b=if p then -1 else if q then 1 else 0:=by
 unfold eL;simp only[aw,ai]
theorem Yv{a b:List Nat}:eL [a] [b]=eL a b:=wd (by simp[List.cons_lt_cons_iff]) (by simp[List.cons_lt_cons_iff])
theorem Wq{a:List Nat}:eL a a=0:=by unfold eL;simp[List.lt_irrefl]
theorem Yw{a b c d:List Nat}:eL [a,c] [b,d]=if eL a b=0 then eL c d else eL a b:=by
 by_cases aw:a<b
 ·have ai:=List.lt_asymm aw
  have e:eL a b=-1:=if_pos aw
  rw[e,if_neg (by decide),eL,if_pos (List.cons_lt_cons_iff.mpr (.inl aw))]
 ·by_cases ai:b<a
  ·have e:eL a b=1:=by unfold eL;rw[if_neg aw,if_pos ai]
   rw[e,if_neg (by decide),eL,if_neg fun h=>List.lt_asymm (List.cons_lt_cons_iff.mpr (.inl ai)) h,if_pos (List.cons_lt_cons_iff.mpr (.inl ai))]
  ·obtain rfl:=List.le_antisymm (List.not_lt.mp ai) (List.not_lt.mp aw)
   rw[Wq,if_pos rfl]
   exact wd (by simp[List.cons_lt_cons_iff,List.lt_irrefl]) (by simp[List.cons_lt_cons_iff,List.lt_irrefl])
theorem qZ{a b:Int}(bp:-1<=a)(aS:-1<=b):[0,(a+1).toNat] < [0,(b+1).toNat]↔a<b:=by
 simp only[List.cons_lt_cons_iff,Nat.lt_irrefl,false_or,true_and,List.lt_irrefl,and_false,or_false];lia
theorem CQ{a b:Str}:(0::a.cps.toList)<(0::b.cps.toList)↔a.cps.toList<b.cps.toList:=by
 simp only[List.cons_lt_cons_iff,Nat.lt_irrefl,false_or,true_and]
inductive kx:Str->D->Prop
 | z4:kx "integer" .none
 | FE:kx "double" .none
 | z5:kx "character" .none
 | int (n:Int) (h:-1<=n):kx "integer" (.int n)
 | dbl (n:Int) (h:five.contains n=true):kx "double" (.tup [.int n,.int 1])
 | chr (s:Str):kx "character" (.str s)
@[irreducible] noncomputable def wK:aU:=fun ds k=>At (Run [43,35] [] (AU) ds k)
theorem acH:bg B 1 qk wK:=by unfold wK;exact .wall (.run QT (RN))
theorem Mq{kd:Str}{d:D}{k:D->Prop}(h:kx kd d)(av:k (.bool (tK d))):wK [.str kd,d] k:=by
 unfold wK
 constructor
 cases h with
 | dbl n h=>exact Eq.mpr (ym (P:=fun n=>Run [43,35] [] AU [.str "double",.tup [.int n,.int 1]] k=k (.bool false)) h (by kernel_rfl) (by kernel_rfl) (by kernel_rfl) (by kernel_rfl) (by kernel_rfl)) av
 | _=>exact Eq.mpr (by kernel_rfl) av
@[irreducible] noncomputable def vY:aU:=fun ds k=>At (Run [110] [] (JT) ds k)
theorem Wr:bg B 1 qQ vY:=by unfold vY;exact .wall (.run Ud (U3))
theorem KR{n:Int}{k:D->Prop}(av:k (.bool false)):vY [.tup [.int n,.int 1]] k:=by
 unfold vY
 exact⟨fC (p:=n=0) (fun Z=>av) fun Z=>av⟩
@[irreducible] noncomputable def wL:aU:=fun ds k=>At (Run [110,115] [] (IR vY) ds k)
theorem acI:bg B 2 qG wL:=by unfold wL;exact .wall (.run SX (TG Wr))
theorem M7(a:Int):fU (.int a) (.int 1)=some (.int a):=by
 show (if nP 1=true then some (D.int (a * 1)) else none)=_
 rw[if_pos (lF.mpr (by decide)),Int.mul_one]
theorem acJ{a b:Int}{k:D->Prop}(bp:-1<=a)(aS:-1<=b)(av:k (.int (eL (ct (.int a)) (ct (.int b))))):wL [.tup [.int a,.int 1],.tup [.int b,.int 1]] k:=by
 rw[show eL (ct (.int a)) (ct (.int b))=_ from wd (qZ bp aS) (qZ aS bp)] at av
 unfold wL
 refine⟨KR (KR (b6 (M7 a) (b6 (M7 b) (fC (p:=a=b) (fun q=>?_) fun q=>fC (p:=a<b) (fun cK=>?_) fun cK=>?_))))⟩
 ·rw[if_neg (by lia),if_neg (by lia)] at av;exact av
 ·rw[if_pos cK] at av;exact av
 ·rw[if_neg cK,if_pos (by lia)] at av;exact av
@[irreducible] noncomputable def n6:aU:=fun ds k=>At (Run [43,1,6] [] (GC wL) ds k)
theorem acK:bg B 3 pV n6:=by unfold n6;exact .wall (.run PQ (Qb acI))
theorem Yx{a b:Int}{k:D->Prop}(bp:-1<=a)(aS:-1<=b)(av:k (.int (eL (ct (.int a)) (ct (.int b))))):n6 [.str "integer",.int a,.int b] k:=by
 rw[show eL (ct (.int a)) (ct (.int b))=_ from wd (qZ bp aS) (qZ aS bp)] at av
 unfold n6
 exact⟨fC (p:=a<b) (fun q=>by rw[if_pos q] at av;exact av) fun q=>fC (p:=b<a) (fun cK=>by rw[if_neg q,if_pos cK] at av;exact av) fun cK=>by rw[if_neg q,if_neg cK] at av;exact av⟩
theorem Yy{a b:Str}{k:D->Prop}(av:k (.int (eL (ct (.str a)) (ct (.str b))))):n6 [.str "character",.str a,.str b] k:=by
 rw[show eL (ct (.str a)) (ct (.str b))=_ from wd CQ CQ] at av
 unfold n6
 exact⟨fC (p:=a.cps.toList<b.cps.toList) (fun q=>by rw[if_pos q] at av;exact av) fun q=>fC (p:=b.cps.toList<a.cps.toList) (fun cK=>by rw[if_neg q,if_pos cK] at av;exact av) fun cK=>by rw[if_neg q,if_neg cK] at av;exact av⟩
theorem Yz{a b:Int}{k:D->Prop}(bp:-1<=a)(aS:-1<=b)(av:k (.int (eL (ct (.int a)) (ct (.int b))))):n6 [.str "double",.tup [.int a,.int 1],.tup [.int b,.int 1]] k:=by
 unfold n6
 exact⟨acJ bp aS av⟩
@[irreducible] noncomputable def tg:aU:=fun ds k=>At (Run [106,34,37,16,59] [] (Gv n6 wK) ds k)
theorem acL:bg B 4 pT tg:=by unfold tg;exact .wall (.run PN (PY acK (acH.le (by decide))))
theorem vI{n:Int}(h:five.contains n=true):-1<=n:=by rcases so h with rfl|rfl|rfl|rfl|rfl <;> decide
theorem acM{kd:Str}{l:List D}{i j:Nat}{d e:D}{k:D->Prop}(aN:i<=10000)(bL:j<=10000)(aw:l[i]?=some d)(ai:l[j]?=some e)(hd:kx kd d)(he:kx kd e)(av:k (.int (eL (ct d) (ct e)))):tg [.vec kd (.list l) .none,.int i,.int j,.bool false,.bool true] k:=by
 unfold tg
 refine⟨b6 (h1 (by exact bO ‹_›) aw) (b6 (h1 (by exact bO ‹_›) ai) (Mq hd (Mq he ?_)))⟩
 cases hd with
 | z4|FE|z5=>cases he <;> exact av
 | int n h=>cases he with|z4=>exact av|int m aC=>exact Yx h aC av
 | chr s=>cases he with|z5=>exact av|chr t=>exact Yy av
 | dbl n h=>cases he with|FE=>exact av|dbl m aC=>exact Yz (vI h) (vI aC) av
inductive mc(n:Nat):D->Prop
 | mk (kd:Str) (l:List D) (aF:l.length=n) (h:∀d∈l,kx kd d) (av:kd="integer"∨kd="double"∨kd="character"):mc n (.vec kd (.list l) .none)
noncomputable def iI(i:Nat):D->List Nat|.vec _ (.list l) _=>ct (l.getD i .none)|_=>[]
noncomputable def gK(ae:List D)(i:Nat):kj:=ae.map (iI i)
inductive lb(n:Nat):List D->Prop
 | one {v:D} (h:mc n v):lb n [v]
 | two {v u:D} (h:mc n v) (aC:mc n u):lb n [v,u]
theorem DN{n:Nat}{v:D}(h:mc n v){i j:Nat}(hn:n<=1000)(aN:i<n)(bL:j<n){k:D->Prop}(av:k (.int (eL (iI i v) (iI j v)))):tg [v,.int i,.int j,.bool false,.bool true] k:=by
 cases h with
 | mk kd l aF h Z=>
  have z:=fun i (aN:i<n)=>List.getElem?_eq_getElem (l:=l) (i:=i) (by exact pk ‹_› ‹_›)
  replace av:k (.int (eL (ct (l.getD i .none)) (ct (l.getD j .none)))):=av
  rw[List.getD_eq_getElem?_getD,List.getD_eq_getElem?_getD,z i aN,z j bL] at av
  exact acM (by exact jc ‹_› ‹_›) (by exact jc ‹_› ‹_›) (z i aN) (z j bL) (h _ (List.getElem_mem _)) (h _ (List.getElem_mem _)) av
theorem k0{p:Prop}[Decidable p]{A B:Prop}(h:p->B)(aC:¬p->A):jj (!decide p) A B:=by
 by_cases q:p
 ·rw[decide_eq_true q];exact h q
 ·rw[decide_eq_false q];exact aC q
@[irreducible] noncomputable def sQ:aU:=fun ds k=>At (Run [108,34,37,16,59] [] (GV tg) ds k)
theorem YB:bg B 5 p1 sQ:=by unfold sQ;exact .wall (.run P7 (QC acL))
theorem YC{n:Nat}{ae:List D}(h:lb n ae){i j:Nat}(hn:n<=1000)(aN:i<n)(bL:j<n){k:D->Prop}(av:k (.int (eL (gK ae i) (gK ae j)))):sQ [.list ae,.int i,.int j,.list (List.replicate ae.length (.bool false)),.bool true] k:=by
 unfold sQ gK at *
 constructor
 cases h with
 | @one v h=>
  replace av:=Yv▸List.map_nil▸List.map_cons▸List.map_nil▸List.map_cons▸av
  refine dI (d0 (n:=1) (by decide)) (DN h hn aN bL (k0 (p:=eL (iI i v) (iI j v)=0) (fun q=>?_) fun q=>?_))
  ·rw[q] at av;exact av
  ·exact av
 | @two v u h aC=>
  replace av:=Yw▸List.map_nil▸List.map_cons▸List.map_cons▸List.map_nil▸List.map_cons▸List.map_cons▸av
  refine dI (d0 (n:=2) (by decide)) (DN h hn aN bL (k0 (p:=eL (iI i v) (iI j v)=0) (fun q=>?_) fun q=>?_))
  ·rw[if_pos q] at av
   refine DN aC hn aN bL (k0 (p:=eL (iI i u) (iI j u)=0) (fun q=>?_) fun q=>?_)
   ·rw[q] at av;exact av
   ·exact av
  ·rw[if_neg q] at av;exact av
end
section
variable {w:World} {B:bC w}
section
variable (K:Nat->kj)
noncomputable def jR(a b:Nat):Bool:=!decide (K b<K a)
noncomputable def hD(a b:Nat):Bool:=decide (K a<K b)||(decide (K a=K b)&&decide (a<=b))
variable {K}
theorem qS{a b:Nat}:hD K a b=true↔K a<K b∨(K a=K b/\a<=b):=by unfold hD;simp
theorem Jp(a b c:Nat)(aw:hD K a b=true)(ai:hD K b c=true):hD K a c=true:=by
 rw[qS] at *
 rcases aw with aw|⟨aw,rE⟩ <;> rcases ai with ai|⟨ai,xi⟩
 ·exact .inl (List.lt_trans aw ai)
 ·exact .inl (ai▸aw)
 ·exact .inl (aw▸ai)
 ·exact .inr ⟨aw.trans ai,Nat.le_trans rE xi⟩
theorem CT(a b:kj):a<b∨a=b∨b<a:=by
 by_cases aw:a<b
 ·exact .inl aw
 ·by_cases ai:b<a
  ·exact .inr (.inr ai)
  ·exact .inr (.inl (List.le_antisymm (List.not_lt.mp ai) (List.not_lt.mp aw)))
theorem Uu(a b:Nat):(hD K a b||hD K b a)=true:=by
 rw[Bool.or_eq_true,qS,qS]
 rcases CT (K a) (K b) with h|h|h
 ·exact .inl (.inl h)
 ·rcases Nat.le_total a b with q|q
  ·exact .inl (.inr ⟨h,q⟩)
  ·exact .inr (.inr ⟨h.symm,q⟩)
 ·exact .inr (.inl h)
theorem Ve{a b:Nat}(aw:hD K a b=true)(ai:hD K b a=true):a=b:=by
 rw[qS] at aw ai
 rcases aw with aw|⟨aw,rE⟩ <;> rcases ai with ai|⟨ai,xi⟩
 ·exact absurd ai (List.lt_asymm aw)
 ·exact absurd aw (ai▸List.lt_irrefl _)
 ·exact absurd ai (aw▸List.lt_irrefl _)
 ·exact Nat.le_antisymm ‹_› ‹_›
theorem YD{a b:Nat}(h:a<b):jR K a b=hD K a b:=by
 unfold jR hD
 rw[decide_eq_true (Nat.le_of_lt h),Bool.and_true]
 rcases CT (K a) (K b) with q|q|q
 ·rw[decide_eq_true q,decide_eq_false (List.lt_asymm q)];rfl
 ·rw[decide_eq_false (p:=K b<K a) (by exact q.symm▸(List.lt_irrefl _)),decide_eq_true q];simp
 ·rw[decide_eq_true q,decide_eq_false (List.lt_asymm q),decide_eq_false (p:=K a=K b) (fun e=>by exact List.lt_irrefl _ (e▸q))];rfl
theorem Bm{s bP:Nat->Nat->Bool}:∀(l r:List Nat),(∀a∈l,∀b∈r,s a b=bP a b)->List.merge l r s=List.merge l r bP
 | [],r,Z=>by simp
 | a::l,[],Z=>by simp
 | a::l,b::r,h=>by
  rw[List.cons_merge_cons,List.cons_merge_cons,h a (.head _) b (.head _),Bm l (b::r) fun x aE y bj=>h x (.tail _ aE) y bj,Bm (a::l) r fun x aE y bj=>h x aE y (.tail _ bj)]
noncomputable def m9(s:Nat->Nat->Bool):List (List Nat)->List (List Nat)
 | a::b::rs=>List.merge a b s::m9 s rs
 | rs=>rs
noncomputable def mM(K:Nat->kj)(rs:List (List Nat)):List (List Nat):=((List.range (rs.length / 2)).map fun i=>List.merge (rs.getD (2 * i) []) (rs.getD (2 * i+1) []) (jR K))++(if rs.length % 2=1 then [rs.getD (rs.length - 1) []] else [])
theorem J9:∀rs:List (List Nat),mM K rs=m9 (jR K) rs
 | []=>rfl
 | [a]=>by simp[mM,m9]
 | a::b::rs=>by
  rw[m9,<- J9 rs]
  unfold mM
  rw[List.length_cons,List.length_cons,show (rs.length+1+1) / 2=rs.length / 2+1 by lia,List.range_succ_eq_map,List.map_cons,List.map_map,List.cons_append]
  congr 1
  congr 1
  rw[show (rs.length+1+1) % 2=rs.length % 2 by lia]
  split
  ·rename_i q;rw[show rs.length+1+1 - 1=(rs.length - 1)+1+1 by lia,List.getD_cons_succ,List.getD_cons_succ]
  ·rfl
theorem Jq{rs:List (List Nat)}:(mM K rs).length=rs.length / 2+rs.length % 2:=by
 unfold mM
 rw[List.length_append,List.length_map,List.length_range]
 split
 ·rename_i h;rw[h];rfl
 ·simp only[List.length_nil];lia
structure Ord(K:Nat->kj)(n:Nat)(rs:List (List Nat)):Prop where
 each:∀r∈rs,r.Pairwise fun a b=>hD K a b=true
 next:rs.Pairwise fun r s=>∀a∈r,∀b∈s,a<b
 all:rs.flatten.Perm (List.range n)
theorem Ord.m9{rs:List (List Nat)}:(∀r∈rs,r.Pairwise fun a b=>hD K a b=true)->rs.Pairwise (fun r s=>∀a∈r,∀b∈s,a<b)->
  (∀r∈Nz.Internal.m9 (jR K) rs,r.Pairwise fun a b=>hD K a b=true)/\(Nz.Internal.m9 (jR K) rs).Pairwise (fun r s=>∀a∈r,∀b∈s,a<b)/\(Nz.Internal.m9 (jR K) rs).flatten.Perm rs.flatten:=by
 fun_induction Nz.Internal.m9 (jR K) rs with
 | case1 a b rs c9=>
  intro aw ai
  rw[List.pairwise_cons,List.pairwise_cons] at ai
  refine fW ai fun g1 g2 g3=>?_
  refine fW (c9 (fun r aA=>aw r (.tail _ (.tail _ aA))) g3) fun iA gS oF=>?_
  refine⟨fun r aA=>?_,?_,?_⟩
  ·cases aA with
   | head=>exact(Bm a b fun x aE y bj=>YD (g1 b (.head _) x aE y bj)).symm▸(List.pairwise_merge Jp Uu _ _ (aw a (.head _)) (aw b (.tail _ (.head _))))
   | tail Z aA=>exact iA r aA
  ·rw[List.pairwise_cons]
   refine⟨fun r aA x aE y bj=>?_,gS⟩
   have z6:=oF.mem_iff.mp (List.mem_flatten.mpr ⟨r,aA,bj⟩)
   refine aW (List.mem_flatten.mp z6) fun kJ m3 z6=>?_
   rcases List.mem_merge.mp aE with aE|aE
   ·exact g1 kJ (.tail _ m3) x aE y z6
   ·exact g2 kJ m3 x aE y z6
  ·rw[List.flatten_cons,List.flatten_cons,List.flatten_cons,<- List.append_assoc]
   exact(List.merge_perm_append _).append oF
 | case2 rs h=>exact fun aw ai=>⟨aw,ai,.refl _⟩
theorem Ord.pass{n:Nat}{rs:List (List Nat)}(h:Ord K n rs):Ord K n (mM K rs):=by
 refine fW (Ord.m9 h.each h.next) fun a1 a2 jT=>?_
 rw[<- J9] at a1 a2 jT
 exact⟨a1,a2,jT.trans h.all⟩
theorem Ka:∀(rs:List (List Nat)) (i:Nat),i+1<rs.length->∃s t,rs.flatten=s++((rs.getD i []++rs.getD (i+1) [])++t)
 | a::b::rs,0,Z=>⟨[],rs.flatten,by simp⟩
 | a::rs,i+1,h=>by
  refine iY (Ka rs i (by simpa using h)) fun s t e=>?_
  exact⟨a++s,t,by rw[List.flatten_cons,e,List.getD_cons_succ,List.getD_cons_succ];simp only[List.append_assoc]⟩
 | [a],0,h=>by simp at h
 | [],Z,h=>by simp at h
theorem Ord.two{n:Nat}{rs:List (List Nat)}(h:Ord K n rs){i:Nat}(aN:i+1<rs.length):(rs.getD i []).length+(rs.getD (i+1) []).length<=n/\∀p∈rs.getD i []++rs.getD (i+1) [],p<n:=by
 refine iY (Ka rs i aN) fun s t e=>?_
 have a:=h.all
 rw[e] at a
 refine⟨?_,fun p bc=>List.mem_range.mp (a.mem_iff.mp (List.mem_append_right _ (List.mem_append_left _ bc)))⟩
 have:=a.length_eq
 rw[List.length_range,List.length_append,List.length_append,List.length_append] at this
 lia
theorem Kb:∀ps:List Nat,(ps.map fun p=>[p]).flatten=ps
 | []=>rfl
 | p::ps=>by rw[List.map_cons,List.flatten_cons,Kb ps];rfl
theorem Ord.one(n:Nat):Ord K n ((List.range n).map fun p=>[p]):=⟨fun r aA=>by
  refine aW (List.mem_map.mp aA) fun p Z Ec=>?_
  subst Ec;exact List.pairwise_singleton _ _,by
  rw[List.pairwise_map]
  exact List.pairwise_lt_range.imp fun {a b} ajQ x aE y bj=>by rw[List.mem_singleton] at aE bj;lia,by rw[Kb]⟩
end
end
section
variable {w:World} {B:bC w}
noncomputable abbrev d8(l:List Nat):D:=.list (l.map fun i:Nat=>D.int i)
theorem vJ{l:List Nat}{i:Nat}(aN:i<l.length)(a5:l.length<=100000):item (d8 l) (.int i)=some (.int (l[i]:Nat)):=h1 (by exact jc ‹_› ‹_›) (by rw[List.getElem?_map,List.getElem?_eq_getElem aN];rfl)
theorem Mr{l:List Nat}{i:Nat}(h:l.length<=10000):sliceFrom (d8 l) i=some (d8 (l.drop i)):=by
 have e:sliceFrom (d8 l) i=if 0<=(i:Int)/\(l.map fun i:Nat=>D.int i).length<=10000 then some (.list ((l.map fun i:Nat=>D.int i).drop (i:Int).toNat)) else none:=rfl
 rw[e,if_pos ⟨by exact Int.natCast_nonneg _,by simpa using h⟩,Int.toNat_natCast,<- List.map_drop]
theorem KS{l:List Nat}(h:l.length<=10000):c8 [d8 l]=some (.int l.length):=(kX (by rw[List.length_map];exact h)).trans (by rw[List.length_map])
theorem Ms{a b:kj}:eL a b<=0↔¬b<a:=by
 unfold eL
 by_cases aw:a<b
 ·rw[if_pos aw];exact⟨fun Z=>List.lt_asymm aw,fun Z=>by decide⟩
 ·rw[if_neg aw]
  by_cases ai:b<a
  ·rw[if_pos ai];exact⟨fun h=>absurd h (by decide),fun h=>absurd ai h⟩
  ·rw[if_neg ai];exact⟨fun Z=>ai,fun Z=>by decide⟩
noncomputable abbrev xu(ae:List D):D:=.list (List.replicate ae.length (.bool false))
noncomputable abbrev ahq:db:=(eW (bl (ag 34) (aT (a8 c8) (aj (ag 46) az)) (a6 jk)) (eW (bl (ag 37) (aT (a8 c8) (aj (ag 80) az)) (a6 jk)) cg))
noncomputable abbrev ahr:bh:=(ay (bF (bl (aT sQ (aj (ag 108) (aj (ak (ag 46) (ag 34) (f2 item)) (aj (ak (ag 80) (ag 37) (f2 item)) (aj (ag 16) (aj (ag 59) az)))))) (au (.int 0)) (a6 w8)) (ay (dG (dS 54 (aj (ak (ag 46) (ag 34) (f2 item)) az) (dd d9))) (ay (kh 34 (au (.int 1)) (f2 n2)) aJ)) (ay (dG (dS 54 (aj (ak (ag 80) (ag 37) (f2 item)) az) (dd d9))) (ay (kh 37 (au (.int 1)) (f2 n2)) aJ))) aJ)
noncomputable abbrev z7(ae:List D)(l r:List Nat)(a:Addr)(acc:List Nat)(i j:Nat):aO:=[(37,.aX (.int j)),(34,.aX (.int i)),(54,.mt a (.list (acc.map fun i:Nat=>D.int i))),(59,.aX (.bool true)),(16,.aX (xu ae)),(108,.aX (.list ae)),(80,.aX (d8 r)),(46,.aX (d8 l))]
theorem Ws{m:Nat}{ae:List D}{l r:List Nat}{a:Addr}{k:dM->aO->Prop}(aP:lb m ae)(hm:m<=1000)(a5:l.length+r.length<=190)(aS:∀p∈l++r,p<m)(av:∀acc i j,i<=l.length->j<=r.length->acc.length<=10000->acc++l.drop i++r.drop j=List.merge l r (jR (gK ae))->k .cx (z7 ae l r a acc i j)):
  ∀(n:Nat) (acc:List Nat) (i j:Nat),i<=l.length->j<=r.length->(l.length - i)+(r.length - j)<n->acc.length+(l.length - i)+(r.length - j)=l.length+r.length->acc++List.merge (l.drop i) (r.drop j) (jR (gK ae))=List.merge l r (jR (gK ae))->tG [] ahq ahr n (z7 ae l r a acc i j) k:=by
 intro n
 induction n with
 | zero=>intro acc i j Z Z hn;lia
 | succ n c9=>
  intro acc i j aN bL hn bp he
  have oG:=KS (l:=l) (by lia)
  have xT:=KS (l:=r) (by lia)
  refine dA oG (fC (p:=(i:Int)<(l.length:Int)) (fun gA=>dA xT (fC (p:=(j:Int)<(r.length:Int)) (fun cK=>?_) fun cK=>?_)) fun gA=>?_)
  ·have gA:i<l.length:=by lia
   have cK:j<r.length:=by lia
   have z:(acc.map fun i:Nat=>D.int i).length<=10000:=by rw[List.length_map];lia
   rw[List.drop_eq_getElem_cons gA,List.drop_eq_getElem_cons cK,List.cons_merge_cons] at he
   refine b6 (vJ gA (by lia)) (b6 (vJ cK (by lia)) (YC aP hm (aS _ (List.mem_append_left _ (List.getElem_mem _))) (aS _ (List.mem_append_right _ (List.getElem_mem _))) (fC (p:=eL (gK ae l[i]) (gK ae r[j])<=0) (fun hc=>?_) fun hc=>?_)))
   ·rw[if_pos (by exact congrArg _ (decide_eq_false (Ms.mp hc))),<- List.drop_eq_getElem_cons cK] at he
    have:=c9 (acc++[l[i]]) (i+1) j (by assumption) bL (by lia) (by rw[List.length_append,List.length_singleton];lia) (by rw[List.append_assoc];exact he)
    unfold z7 at this
    rw[List.map_append] at this
    exact b6 (vJ gA (by lia)) (ap z this)
   ·rw[if_neg (by unfold jR;refine(decide_eq_true (Classical.not_not.mp fun h=>hc (Ms.mpr h))).symm▸?_;decide),<- List.drop_eq_getElem_cons gA] at he
    have:=c9 (acc++[r[j]]) i (j+1) aN (‹_›) (by lia) (by rw[List.length_append,List.length_singleton];lia) (by rw[List.append_assoc];exact he)
    unfold z7 at this
    rw[List.map_append] at this
    exact b6 (vJ cK (by lia)) (ap z this)
  ·refine av acc i j aN bL (by lia) ?_
   rw[List.drop_eq_nil_of_le (by lia:r.length<=j)] at he ⊢
   rw[List.append_nil];simpa using he
  ·refine av acc i j aN bL (by lia) ?_
   rw[List.drop_eq_nil_of_le (by lia:l.length<=i)] at he ⊢
   rw[List.append_nil];simpa using he
@[irreducible] noncomputable def th:aU:=fun ds k=>At (Run [46,80,108,16,59] [] (Hz sQ) ds k)
theorem acN:bg B 6 ql th:=by unfold th;exact .wall (.run QU (RP YB))
theorem acO{m:Nat}{ae:List D}{l r:List Nat}{k:D->Prop}(aP:lb m ae)(hm:m<=1000)(a5:l.length+r.length<=190)(aS:∀p∈l++r,p<m)(av:k (d8 (List.merge l r (jR (gK ae))))):th [d8 l,d8 r,.list ae,xu ae,.bool true] k:=by
 unfold th
 refine⟨fun a=>⟨Ws aP hm a5 aS (a:=a) (fun acc i j aN bL aw ai=>?_) 200 [] 0 0 (by exact Nat.zero_le _) (by exact Nat.zero_le _) (by exact hO ‹_›) (by rw[List.length_nil];lia) rfl⟩⟩
 have z:(acc++l.drop i++r.drop j).length<=10000:=by rw[ai,List.length_merge];exact bO ‹_›
 have aD:c7 (.list (acc.map fun i:Nat=>D.int i)) (d8 (l.drop i))=some (d8 (acc++l.drop i)):=by
  rw[List.length_append,List.length_append] at z
  exact(if_pos (by simp only[List.length_map];lia)).trans (by rw[d8,List.map_append])
 have ak:c7 (d8 (acc++l.drop i)) (d8 (r.drop j))=some (d8 (acc++l.drop i++r.drop j)):=by
  rw[List.length_append] at z
  exact(if_pos (by simp only[List.length_map];assumption)).trans (by rw[d8,List.map_append (l₂:=r.drop j)])
 rw[<- ai] at av
 refine q4 (o:=sliceFrom (d8 l) i) (Mr (l:=l) (i:=i) (by lia)) (b6 aD ?_)
 exact q4 (o:=sliceFrom (d8 r) j) (Mr (l:=r) (i:=j) (by lia)) (b6 ak av)
theorem Wt{n:Nat}(h0:0<n)(h:n<=10000):sx [.int 0,.int ((n:Int) - 1),.int 2]=some (.hA 0 ((n:Int) - 1) 2)/\eR 0 ((n:Int) - 1) 2=(List.range (n / 2)).map fun i:Nat=>D.int ((2 * i:Nat):Int):=by
 have e:Builtin.Range.rangeSize 0 ((n:Int) - 1) 2=((n / 2:Nat):Int):=by
  unfold Builtin.Range.rangeSize
  skip
  split <;> lia
 have aix:Builtin.Range.small 0 ((n:Int) - 1) 2=true:=by
  unfold Builtin.Range.small
  refine e.symm▸?_
  unfold Builtin.Range.rangeFitsLong
  simp
  try lia
 refine⟨?_,?_⟩
 ·show n3 _ _ _=_
  unfold n3;exact if_pos ⟨aix,by decide,by decide⟩
 ·unfold eR;rw[e,Int.toNat_natCast]
  apply List.map_congr_left
  intro i Z
  congr 1
  lia
noncomputable abbrev Az(rs:List (List Nat)):D:=.list (rs.map d8)
theorem KT{rs:List (List Nat)}(h:rs.length<=10000):c8 [Az rs]=some (.int rs.length):=(kX (by rw[List.length_map];exact h)).trans (by rw[List.length_map])
theorem Cq{rs:List (List Nat)}{i:Nat}(aN:i<rs.length)(a5:rs.length<=100000):item (Az rs) (.int i)=some (d8 (rs.getD i [])):=mz (f:=d8) (l:=rs) [] aN a5
theorem item_last{rs:List (List Nat)}(h0:0<rs.length)(a5:rs.length<=10000):item (Az rs) (.int (-1))=some (d8 (rs.getD (rs.length - 1) [])):=by
 show mK _ _=_
 unfold mK
 rw[if_neg (by lia),if_neg (by lia),if_pos (by rw[List.length_map];lia),List.length_map,List.getElem?_map,show ((-1:Int)+(rs.length:Int)).toNat=rs.length - 1 by lia,List.getD_eq_getElem?_getD,List.getElem?_eq_getElem (show rs.length - 1<rs.length by lia)]
 rfl
noncomputable abbrev OI:db:=(bl (aT (a8 c8) (aj (ag 85) az)) (au (.int 1)) (a6 hS))
noncomputable abbrev OJ:bh:=(ay (dV 50 (eH az)) (ay (dF 4 [4] (aT cF (aj (au (.int 0)) (aj (ak (aT (a8 c8) (aj (ag 85) az)) (au (.int 1)) (f2 gq)) (aj (au (.int 2)) az)))) (ay (dG (dS 50 (aj (aT th (aj (ak (ag 85) (ag 4) (f2 item)) (aj (ak (ag 85) (ak (ag 4) (au (.int 1)) (f2 c7)) (f2 item)) (aj (ag 108) (aj (ag 16) (aj (ag 59) az)))))) az) (dd d9))) aJ)) (ay (bF (bl (ak (aT (a8 c8) (aj (ag 85) az)) (au (.int 2)) (f2 jE)) (au (.int 1)) (a6 ck)) (ay (dG (dS 50 (aj (ak (ag 85) (aD (au (.int 1)) (f1 lU)) (f2 item)) az) (dd d9))) aJ) aJ) (ay (bM 85 (ag 50)) aJ))))
noncomputable abbrev FG(ae:List D)(p:D)(rs:List (List Nat)):aO:=[(85,.aX (Az rs)),(59,.aX (.bool true)),(16,.aX (xu ae)),(108,.aX (.list ae)),(76,.aX p)]
theorem Wu{m:Nat}{ae:List D}{p:D}{k:dM->aO->Prop}(aP:lb m ae)(hm:m<=190)(av:∀r,Ord (gK ae) m [r]->k .cx (FG ae p [r])):∀(n:Nat) (rs:List (List Nat)),0<rs.length->rs.length<n->n<=1000->Ord (gK ae) m rs->tG [50] OI OJ n (FG ae p rs) k:=by
 intro n
 induction n with
 | zero=>intro rs Z h;lia
 | succ n c9=>
  intro rs h0 hn a5 ho
  have oG:=KT (rs:=rs) (by exact jc ‹_› ‹_›)
  refine dA oG (fC (p:=(1:Int)<(rs.length:Int)) (fun q=>?_) fun q=>?_)
  ·intro a
   refine bS (Wt (n:=rs.length) (‹_›) (by exact jc ‹_› ‹_›)) fun nq oA=>?_
   refine dA oG (dI nq ?_)
   show im _ _ _ (eR 0 ((rs.length:Int) - 1) 2) _ _
   refine oA.symm▸?_
   refine mD (e:=fun i:Nat=>D.int ((2 * i:Nat):Int)) (fun acc=>(50,.mt a (.list acc))::FG ae p rs) (fun i=>d8 (List.merge (rs.getD (2 * i) []) (rs.getD (2 * i+1) []) (jR (gK ae)))) _ [] (by rw[List.length_nil,List.length_range];lia) (fun acc i aN f3 K R aZ=>?_) ?_
   ·rw[List.mem_range] at aN
    refine bS (ho.two (i:=2 * i) (by lia)) fun t1 jo=>?_
    exact b6 (Cq (by lia) (by exact jc ‹_› ‹_›)) (b6 (Cq (i:=2 * i+1) (by lia) (by exact jc ‹_› ‹_›)) (acO aP (by exact bO ‹_›) (Nat.le_trans ‹_› ‹_›) jo (ap f3 aZ)))
   ·have e:∀x,x=(mM (gK ae) rs).map d8->tG [50] OI OJ n [(85,.aX (.list x)),(59,.aX (.bool true)),(16,.aX (xu ae)),(108,.aX (.list ae)),(76,.aX p)] k:=fun x aE=>aE▸(c9 (mM (gK ae) rs) (by rw[Jq];lia) (by rw[Jq];lia) (Nat.le_of_lt ‹_›) ho.pass)
    refine dA oG (fC (p:=Int.fmod rs.length 2=1) (fun cK=>?_) fun cK=>?_)
    all_goals rw[Int.fmod_eq_emod_of_nonneg _ (by decide)] at cK
    ·refine b6 (item_last h0 (by exact jc ‹_› ‹_›)) (ap (by rw[List.nil_append,List.length_map,List.length_range];lia) (e _ ?_))
     unfold mM
     rw[if_pos (by lia),List.map_append,List.map_map,List.nil_append];rfl
    ·refine e _ ?_
     unfold mM
     rw[if_neg (by lia),List.append_nil,List.map_map,List.nil_append];rfl
  ·match rs,h0,q with
   | [r],Z,bt=>exact av r ho
   | Z::bt::cD,et,q=>simp at q;lia
end
section
variable {w:World} {B:bC w}
@[irreducible] noncomputable def wM:aU:=fun ds k=>At (Run [76,108,16,59] [] (HA th) ds k)
theorem acP:bg B 7 qm wM:=by unfold wM;exact .wall (.run QV (RQ acN))
theorem acQ{m:Nat}{ae:List D}{k:D->Prop}(aP:lb m ae)(hm:m<=190)(av:∀r,Ord (gK ae) m [r]->k (d8 r)):wM [d8 (List.range m),.list ae,xu ae,.bool true] k:=by
 unfold wM
 refine⟨comp_map (e:=fun i:Nat=>D.int (i:Int)) (g:=fun i=>d8 [i]) (List.range m) [] (by exact List.length_nil.symm▸List.length_range.symm▸(eN ‹_›)) (fun i Z K aZ=>aZ) ?_⟩
 refine(show ([]:List D)++(List.range m).map (fun i=>d8 [i])=((List.range m).map fun p=>[p]).map d8 by exact List.map_map.symm▸rfl).symm▸?_
 have l:((List.range m).map fun p=>[p]).length=m:=by rw[List.length_map,List.length_range]
 refine dA (KT (by exact g0 ‹_› ‹_›)) (fC (p:=((((List.range m).map fun p=>[p]).length:Nat):Int)=0) (fun q=>?_) fun q=>⟨Wu aP hm (fun r h=>?_) 200 _ (by lia) (by lia) (by decide) (.one m)⟩)
 ·obtain rfl:m=0:=by lia
  exact av [] ⟨fun r aA=>by rw[List.mem_singleton] at aA;subst aA;exact .nil,List.pairwise_singleton _ _,.refl _⟩
 ·exact b6 (Cq (rs:=[r]) (i:=0) Nat.zero_lt_one (Nat.le_of_ble_eq_true rfl)) (av r h)
@[irreducible] noncomputable def wN:aU:=fun ds k=>At (Run [16,14] [] (Iu) ds k)
theorem acR:bg B 1 qB wN:=by unfold wN;exact .wall (.run Sr (Tb))
theorem Mt{n:Nat}{k:D->Prop}(h:n<=1000)(av:k (.list (List.replicate n (.bool false)))):wN [.bool false,.int n] k:=by
 unfold wN
 exact⟨b6 ((if_pos ⟨by exact Int.natCast_nonneg _,by exact EV ‹_›⟩).trans (by rfl)) av⟩
@[irreducible] noncomputable def ti:aU:=fun ds k=>At (Run [106] [] (Jf) ds k)
theorem Mu:bg B 1 nJ ti:=by unfold ti;exact .wall (.run TD (Uk))
theorem Mv{n:Nat}{v:D}{k:D->Prop}(h:mc n v)(hn:n<=1000)(av:k (.int n)):ti [v] k:=by
 cases h with
 | mk kd l aF h ez=>
  subst aF
  unfold ti
  constructor
  rcases ez with rfl|rfl|rfl <;> exact dA (kX (by exact bO ‹_›)) av
@[irreducible] noncomputable def wO:aU:=fun ds k=>At (Run [106] [] (Gu) ds k)
theorem acS:bg B 1 pS wO:=by unfold wO;exact .wall (.run PL (PX))
theorem DP{n:Nat}{v:D}{k:D->Prop}(h:mc n v)(av:k .none):wO [v] k:=by
 cases h with
 | mk kd l aF h ez=>
  unfold wO
  constructor
  rcases ez with rfl|rfl|rfl <;> exact Eq.mpr (by kernel_rfl) av
@[irreducible] noncomputable def wP:aU:=fun ds k=>At (Run [108,59] [] (G9 ti) ds k)
theorem acT:bg B 2 p7 wP:=by unfold wP;exact .wall (.run Qp (Q9 Mu))
theorem Mw{n:Nat}{v:D}{ae:List D}{k:D->Prop}(h:mc n v)(hn:n<=1000)(av:k (d8 (List.range n))):wP [.list (v::ae),.bool true] k:=by
 unfold wP
 exact⟨fun a=>Mv h hn (dI (d0 (by exact bO ‹_›)) (lL (mD (e:=fun i:Nat=>D.int (i:Int)) (fun acc=>[(76,.mt a (.list acc)),(59,.aX (.bool true)),(108,.aX (.list (v::ae)))]) (fun i:Nat=>D.int (i:Int)) _ [] (by exact List.length_nil.symm▸List.length_range.symm▸(eN ‹_›)) (fun acc i aN f3 K R aZ=>ap f3 aZ) av)))⟩
@[irreducible] noncomputable def wQ:aU:=fun ds k=>At (Run [108,16,59] [.bool false,.bool true] (Iv wO wN wP ti wM) ds k)
theorem acU:bg B 8 qC wQ:=by unfold wQ;exact .wall (.run Ss (Tc (acS.le (by decide)) (acR.le (by decide)) (acT.le (by decide)) (Mu.le (by decide)) acP))
theorem acV{m:Nat}{ae:List D}{k:D->Prop}(aP:lb m ae)(hm:m<=190)(av:∀r,Ord (gK ae) m [r]->k (d8 r)):wQ [.list ae] k:=by
 have z:=fun {v:D} (h:mc m v) {k:D->Prop}=>Mv (k:=k) h (by exact bO ‹_›)
 have fin:=fun k av=>acQ (k:=k) aP hm av
 unfold wQ
 constructor
 cases aP with
 | @one v h=>exact DP h (z h (z h (k0 (p:=(m:Int)=m) (fun Z=>Mt (n:=1) (by decide) (Mw h (by exact bO ‹_›) (fin _ av))) fun q=>absurd rfl q)))
 | @two v u h aC=>exact DP h (z h (z h (k0 (p:=(m:Int)=m) (fun Z=>DP aC (z aC (z h (k0 (p:=(m:Int)=m) (fun Z=>Mt (n:=2) (by decide) (Mw h (by exact bO ‹_›) (fin _ av))) fun q=>absurd rfl q)))) fun q=>absurd rfl q)))
end
section
variable {w:World} {B:bC w}
theorem om{k:Nat}(h:Nat.ble k 1000=true):k<=10000:=Nat.le_trans (Nat.le_of_ble_eq_true h) (by decide)
theorem OL{k:Nat}(h:Nat.ble k 1000=true):k<=1000:=Nat.le_of_ble_eq_true h
noncomputable def keysOf(cs:List cG)(n:Nat):List Str:=(List.range n).map fun i=>h8 (cs.map fun c=>c.ae.getD i .na)
theorem Vf(cs:List cG)(n:Nat):D.list ((List.range n).map fun i=>.str (h8 (cs.map fun c=>c.ae.getD i .na)))=cq (keysOf cs n):=by
 unfold cq keysOf;rw[List.map_map];rfl
theorem lH(cs:List cG)(n:Nat):(keysOf cs n).length=n:=by unfold keysOf;rw[List.length_map,List.length_range]
theorem Uv{xs ys:List Str}:∀p∈oW xs ys,gy xs.length ys.length p:=by
 intro p bc
 refine aW (List.mem_flatMap.mp bc) fun i aN bc=>?_
 refine aW (List.mem_map.mp bc) fun j bL l2=>?_
 subst l2
 rw[List.mem_range] at aN
 have:=List.mem_range.mp (List.mem_filter.mp bL).1
 exact⟨aN,this⟩
theorem Jr{xs ys:List Str}{ax bH:Bool}:∀p∈qY xs ys ax bH,gy xs.length ys.length p:=by
 intro p bc
 rcases List.mem_append.mp bc with bc|bc
 ·rcases List.mem_append.mp bc with bc|bc
  ·exact Uv p bc
  ·split at bc
   ·refine aW (List.mem_map.mp bc) fun i aN aeC=>?_
    subst aeC
    exact List.mem_range.mp (List.mem_filter.mp aN).1
   ·exact nomatch bc
 ·split at bc
  ·refine aW (List.mem_map.mp bc) fun i aN aeD=>?_
   subst aeD
   exact List.mem_range.mp (List.mem_filter.mp aN).1
  ·exact nomatch bc
noncomputable def outD(cols:List cG)(names:List Str)(n:Nat):D:=kb (cols.map ce) (names.map .str) (wc n)
noncomputable def sR(dh:List Str)(e5 f9:Str):List Str:=dh++vX (dh++[e5]) (dh++[f9]) dh ".x"++vX (dh++[f9]) (dh++[e5]) dh ".y"
structure zz(dh:List Str)(e5:Str):Prop where
 one:∀b∈dh,(dh++[e5]).countP (·==b)=1
 len:∀b∈dh++[e5],b.length<=10
noncomputable def jg(Q:List c3):List (Option Nat):=Q.map (·.1)
noncomputable def iX(Q:List c3):List (Option Nat):=Q.map (·.2)
theorem Kc{ex:cG}{Q:List c3}{m n:Nat}{k:D->Prop}(he:ex.ae.length<=10000)(hm:m<=50)(j2:Q.length<=10000)(ho:∀p∈Q,gy m n p)(av:k (ce (ex.pick (jg Q)))):nT [ce ex,.list ([]++Q.map fun p=>g9 p.1)] k:=by
 rw[List.nil_append,show (Q.map fun p=>g9 p.1)=(jg Q).map g9 by unfold jg;rw[List.map_map];rfl]
 refine yA he (by unfold jg;rw[List.length_map];exact j2) (fun i aN=>?_) av
 refine aW (List.mem_map.mp aN) fun Ep bc e=>?_
 obtain⟨aH,aK⟩:=Ep
 have:=ho _ bc
 subst e
 cases aK <;> simp only[gy] at this <;> lia
theorem Kd{ex:cG}{Q:List c3}{m n:Nat}{k:D->Prop}(he:ex.ae.length<=10000)(hn:n<=50)(j2:Q.length<=10000)(ho:∀p∈Q,gy m n p)(av:k (ce (ex.pick (iX Q)))):nT [ce ex,.list ([]++Q.map fun p=>g9 p.2)] k:=by
 rw[List.nil_append,show (Q.map fun p=>g9 p.2)=(iX Q).map g9 by unfold iX;rw[List.map_map];rfl]
 refine yA he (by unfold iX;rw[List.length_map];exact j2) (fun i aN=>?_) av
 refine aW (List.mem_map.mp aN) fun aeE bc e=>?_
 obtain⟨aH,aK⟩:=aeE
 have:=ho _ bc
 subst e
 cases aH <;> simp only[gy] at this <;> lia
theorem Vg{m n:Nat}(hm:m<=50)(hn:n<=50):(iq m n).length<=2500:=by
 have:=qP (g:=fun j=>(List.range m).map fun i=>((some i,some j):c3)) (m:=m) (List.range n) fun j Z=>by simp
 replace this:=List.length_range▸this
 have ai:m * n<=50 * 50:=Nat.mul_le_mul hm hn
 unfold iq;lia
theorem KU{m n:Nat}:∀p∈iq m n,gy m n p:=by
 intro p bc
 refine aW (List.mem_flatMap.mp bc) fun j bL bc=>?_
 refine aW (List.mem_map.mp bc) fun i aN Er=>?_
 subst Er
 exact⟨List.mem_range.mp aN,List.mem_range.mp bL⟩
theorem yD{cols names:List D}{n:Nat}{k:D->Prop}(h:n<=50)(av:k (.int n)):ta [kb cols names (wc n)] k:=acx (l:=(List.range n).map fun i:Nat=>D.int (1+(i:Int))) (by rw[List.length_map,List.length_range];exact bO ‹_›) (by rw[List.length_map,List.length_range];exact av)
theorem Lz{Q:List c3}(h:Q.length<=10000):c8 [.list (Q.map fb)]=some (.int Q.length):=(kX (by rw[List.length_map];exact h)).trans (by rw[List.length_map])
theorem sD{xs ys:List Str}(h:xs.length+ys.length<=10000):c7 (cq xs) (cq ys)=some (cq (xs++ys)):=(if_pos (by simp only[List.length_map];exact h)).trans (by rw[cq,List.map_append])
theorem Mx:(".x":Str).length=2/\(".y":Str).length=2:=by decide +kernel
noncomputable abbrev Key:=cG×cG×eQ
noncomputable def dm(w:Nat):List Str:=(["k","l"]:List Str).take w
noncomputable def cY(ks:List Key):List cG:=ks.map (·.1)
noncomputable def c4(ks:List Key):List cG:=ks.map (·.2.1)
noncomputable def fD(P:List c3)(q:Key):cG:=Eo q.1 q.2.1 q.2.2 P
noncomputable abbrev h6(cs:List cG)(ex:cG):List D:=cs.map ce++[ce ex]
noncomputable abbrev kY(cs:List cG)(ex:cG)(w:Nat)(e5:Str)(m:Nat):D:=kb (h6 cs ex) ((dm w++[e5]).map .str) (wc m)
theorem map_getD{α β:Type}(f:α->β)(l:List α)(z:α):(List.range l.length).map (fun i=>f (l.getD i z))=l.map f:=by
 refine List.ext_getElem (by simp) fun i aw ai=>?_
 simp at aw ai ⊢
 rw[List.getElem?_eq_getElem aw];rfl
theorem vK{w:Nat}(h:w<=2):(dm w).length=w:=by unfold dm;skip;simp;lia
theorem oR{cs:List cG}{ex:cG}{i:Nat}(aN:i<cs.length)(a5:cs.length<=10):item (.list (h6 cs ex)) (.int i)=some (ce (cs.getD i ex)):=h1 (by exact jc ‹_› ‹_›) (by
 rw[List.getElem?_append_left (by rw[List.length_map];exact aN),List.getElem?_map,List.getD_eq_getElem?_getD,List.getElem?_eq_getElem aN];rfl)
theorem KV{cs:List cG}{ex:cG}{i:Nat}(aN:i=cs.length)(a5:cs.length<=10):item (.list (h6 cs ex)) (.int i)=some (ce ex):=h1 (by exact g0 ‹_› ‹_›) (by
 subst aN
 rw[List.getElem?_append_right (by rw[List.length_map];exact Nat.le_refl _),List.length_map,Nat.sub_self];rfl)
theorem Bu:∀xs:List Int,intsOf (xs.map .int)=some xs
 | []=>rfl
 | x::xs=>congrArg (Option.map (x::·)) (Bu xs)
theorem Ke{i w:Nat}:ip (.int i) (d8 (List.range w))=some (!decide (i<w)):=by
 show ((intsOf _).map _).map _=_
 rw[show ((List.range w).map fun i:Nat=>D.int i)=((List.range w).map fun i:Nat=>(i:Int)).map D.int by rw[List.map_map];rfl,Bu]
 show some (!_)=_
 congr 2
 by_cases h:i<w
 ·rw[decide_eq_true h,List.any_eq_true];exact⟨i,List.mem_map.mpr ⟨i,List.mem_range.mpr h,rfl⟩,by exact if_pos rfl⟩
 ·rw[decide_eq_false h,List.any_eq_false]
  intro x aE e
  refine aW (List.mem_map.mp aE) fun j bL Es=>?_
  subst Es
  have:=List.mem_range.mp bL
  have:(j:Int)=i:=by simpa using e
  lia
theorem LA{cols:List D}{w:Nat}{e5:Str}{gT:D}{k:D->Prop}(hw:w<=2)(cx:zz (dm w) e5)(av:k (d8 (List.range w))):td [kb cols ((dm w++[e5]).map .str) gT,cq (dm w)] k:=by
 refine DM (by rw[List.length_append,vK hw,List.length_singleton];exact hO ‹_›) (by rw[vK hw];exact bO ‹_›) cx.one ?_
 match w,hw with
 | 0,Z=>exact av
 | 1,Z=>exact av
 | 2,Z=>exact av
theorem LC{cs:List cG}{n:Nat}{k:D->Prop}(aF:cs.length<=10)(hn:n<=1000)(bb:∀c∈cs,c.Ok 1000/\c.ae.length=n)(av:k (cq (keysOf cs n))):s7 [.list (cs.map ce),.int n] k:=
 aci aF hn bb (by rw[Vf];exact av)
noncomputable def fV(o:List Nat)(P:List c3):List c3:=o.map fun i=>P.getD i (none,none)
theorem Vh{c:cG}{o:List Nat}{k:D->Prop}(aw:c.ae.length<=10000)(ai:o.length<=10000)(a3:∀i∈o,i<100000)(av:k (ce (c.pick (o.map some)))):nT [ce c,d8 o] k:=by
 rw[show d8 o=.list ((o.map some).map g9) by rw[List.map_map];rfl]
 refine yA aw (by rw[List.length_map];exact ai) (fun i aN=>?_) av
 refine aW (List.mem_map.mp aN) fun j bL e=>?_
 obtain rfl:=Option.some.inj e;exact a3 _ bL
theorem Ord.tj{K:Nat->kj}{n:Nat}{o:List Nat}(h:Ord K n [o]):o.length=n/\∀i∈o,i<n:=by
 have a:=h.all
 rw[List.flatten_cons,List.flatten_nil,List.append_nil] at a
 exact⟨by rw[a.length_eq,List.length_range],fun i aN=>List.mem_range.mp (a.mem_iff.mp aN)⟩
theorem KW{K:Nat->kj}{m n:Nat}{o:List Nat}{P:List c3}(h:Ord K P.length [o])(dj:∀p∈P,gy m n p):∀p∈fV o P,gy m n p:=fun p bc=>by
 refine aW (List.mem_map.mp bc) fun i aN aeF=>?_
 subst aeF
 rw[List.getD_eq_getElem?_getD,List.getElem?_eq_getElem (h.tj.2 i aN)]
 exact dj _ (List.getElem_mem _)
theorem acW{b c:Bool}{l:D}{k:D->Prop}(h:o9 [l,.bool (b||c)] k):jj b (o9 [l,.bool true] k) (o9 [l,.bool c] k):=by cases b <;> exact h
@[irreducible] noncomputable def mY:aU:=fun ds k=>At (Run [110,115,7,2,3,97,67] [.bool true] (GY wz td rl ta wI o9 wB wE wQ wH nT wF s7) ds k)
theorem acX:bg B 14 ly mY:=by unfold mY;exact .wall (.run GJ (QG (acj.le (by decide)) (acA.le (by decide)) (DL.le (by decide)) (acw.le (by decide)) acC (acF.le (by decide)) (acq.le (by decide)) (acu.le (by decide)) (acU.le (by decide)) (acB.le (by decide)) (Id.le (by decide)) (acv.le (by decide)) (TV.le (by decide))))
theorem KX{asg:D->aO->(aO->Prop)->Prop}{dr:List Nat}{cO:bh}(P:List D->aO)(w:Nat)(x:D)(acc:List D){k:dM->aO->Prop}(hs:∀i,i<=w->∀(K:aO->Prop) (R:V->aO->Prop),(i<w->K (P acc))->(i=w->K (P (acc++[x])))->asg (.int (i:Nat)) (P acc) fun aY=>cO aY fun a8 ρ'=>match a8 with|.cx=>dO (kl dr ρ') (K (gb dr ρ'))|.dv v=>R v ρ')(av:k .cx (P (acc++[x]))):im asg dr cO ((List.range (w+1)).map fun i:Nat=>D.int (i:Int)) (P acc) k:=by
 have:=yB (asg:=asg) (dr:=dr) (cO:=cO) (k:=k) (fun i=>P (if i<=w then acc else acc++[x])) (w+1) (fun i aN K R aZ=>by
  refine(if_pos (by exact Nat.le_of_lt_succ ‹_›:i<=w)).symm▸?_
  exact hs i (by exact Nat.le_of_lt_succ ‹_›) K R (fun h=>by rw[if_pos (‹_›)] at aZ;exact aZ) fun h=>by rw[if_neg (by lia)] at aZ;exact aZ) (by rw[if_neg (by lia)];exact av)
 rwa [if_pos (Nat.zero_le w)] at this
structure aiy(m n:Nat)(q:Key):Prop where
 bL:lw q.1.kd q.2.1.kd q.2.2
 aE:q.1.Ok 1000
 bj:q.2.1.Ok 1000
 OM:q.1.ae.length=m
 FH:q.2.1.ae.length=n
structure M8(m n:Nat)(ks:List Key):Prop where
 hm:m<=50
 hn:n<=50
 len:ks.length<=2
 all:∀q∈ks,aiy m n q
noncomputable abbrev FI(X Y dh:D)(ax bH:Bool)(i:D)(c4 cY:List Str):aO:=[(116,.aX (cq c4)),(111,.aX (cq cY)),(118,.aX i),(113,.aX i),(67,.aX (.bool true)),(97,.aX (.list [.str ".x",.str ".y"])),(3,.aX (.bool bH)),(2,.aX (.bool ax)),(7,.aX dh),(115,.aX Y),(110,.aX X)]
theorem ahs{ks:List Key}{ex gU:cG}{m n:Nat}{e5 f9:Str}{ax bH:Bool}{r:List D}{P:List c3}{k:D->Prop}(hs:M8 m n ks)(h0:ks≠[])(hex:ex.ae.length<=1000)(ajR:gU.ae.length<=1000)(cx:zz (dm ks.length) e5)(PC:zz (dm ks.length) f9)(dj:qY (keysOf (cY ks) m) (keysOf (c4 ks) n) ax bH=P)(aht:P.length<=190)(aZ:∀q∈ks,(fD P q).Ok 5000)(ahu:rW (ax||bH) (ks.map (fD P)) r)(aP:lb P.length r)(av:∀o,Ord (gK r) P.length [o]->k (outD (ks.map (fun q=>(fD P q).pick (o.map some))++[ex.pick (jg (fV o P)),gU.pick (iX (fV o P))]) (sR (dm ks.length) e5 f9) P.length)):
  mY [kY (cY ks) ex ks.length e5 m,kY (c4 ks) gU ks.length f9 n,cq (dm ks.length),.bool ax,.bool bH,.list [.str ".x",.str ".y"]] k:=by
 have hm:=hs.hm
 have hn:=hs.hn
 have hw:=hs.len
 have OO:∀p∈P,gy m n p:=by
  have:=Jr (xs:=keysOf (cY ks) m) (ys:=keysOf (c4 ks) n) (ax:=ax) (bH:=bH)
  rw[lH,lH] at this
  exact dj▸this
 have j4:(cY ks).length=ks.length:=by unfold cY;rw[List.length_map]
 have nv:(c4 ks).length=ks.length:=by unfold c4;rw[List.length_map]
 have iT:=vK hw
 have xY:c8 [cq (dm ks.length)]=some (.int ks.length):=by rw[qX (by exact g0 ‹_› ‹_›),iT]
 have rR:0<ks.length:=List.length_pos_iff.mpr h0
 obtain⟨kz,iP⟩:=Mx
 have aD:=vp (dm ks.length++[e5]) (dm ks.length++[f9]) (dm ks.length) ".x"
 have ak:=vp (dm ks.length++[f9]) (dm ks.length++[e5]) (dm ks.length) ".y"
 rw[List.length_append,List.length_singleton,iT] at aD ak
 have aiz:c8 [cq (dm ks.length++[e5])]=some (.int (ks.length+1:Nat)):=by rw[qX (by rw[List.length_append,iT,List.length_singleton];exact hO ‹_›),List.length_append,iT];rfl
 have ahv:c8 [cq (dm ks.length++[f9])]=some (.int (ks.length+1:Nat)):=by rw[qX (by rw[List.length_append,iT,List.length_singleton];exact hO ‹_›),List.length_append,iT];rfl
 have aiA:([]:List D)++(List.range ks.length).map (fun i=>ce ((cY ks).getD i ex))=(cY ks).map ce:=by rw[List.nil_append,<- j4,map_getD]
 have aiB:([]:List D)++(List.range ks.length).map (fun i=>ce ((c4 ks).getD i gU))=(c4 ks).map ce:=by rw[List.nil_append,<- nv,map_getD]
 unfold mY
 refine⟨LA hw cx (LA hw PC (dA xY (fC (p:=(ks.length:Int)=0) (fun q=>by omega) fun q=>?_)))⟩
 refine comp_map (e:=fun i:Nat=>D.int (i:Int)) (g:=fun i=>ce ((cY ks).getD i ex)) (List.range ks.length) [] (by rw[List.length_nil,List.length_range];exact eN ‹_›) (fun i aN K aZ=>b6 (oR (by rw[j4];exact List.mem_range.mp aN) (by exact g0 ‹_› ‹_›)) aZ) (yD hm ?_)
 refine aiA.symm▸?_
 refine LC (by exact g0 ‹_› ‹_›) (by exact bO ‹_›) (fun c bb=>?_) ?_
 ·refine aW (List.mem_map.mp bb) fun q aL aeG=>?_
  subst aeG;exact⟨(hs.all q aL).aE,(hs.all q aL).OM⟩
 refine comp_map (e:=fun i:Nat=>D.int (i:Int)) (g:=fun i=>ce ((c4 ks).getD i gU)) (List.range ks.length) [] (by rw[List.length_nil,List.length_range];exact eN ‹_›) (fun i aN K aZ=>b6 (oR (by rw[nv];exact List.mem_range.mp aN) (by exact g0 ‹_› ‹_›)) aZ) (yD hn ?_)
 refine aiB.symm▸?_
 refine LC (by exact g0 ‹_› ‹_›) (by exact bO ‹_›) (fun c bb=>?_) (acr (by rw[lH];exact hm) (by rw[lH];exact hn) fun a=>dA xY (dI (d0 (by exact bO ‹_›)) (lL ?_)))
 ·refine aW (List.mem_map.mp bb) fun q aL aeH=>?_
  subst aeH;exact⟨(hs.all q aL).bj,(hs.all q aL).FH⟩
 refine dj.symm▸?_
 refine mD (e:=fun i:Nat=>D.int (i:Int)) (fun acc=>(13,.mt a (.list acc))::(71,.aX (.list (P.map fb)))::FI (kY (cY ks) ex ks.length e5 m) (kY (c4 ks) gU ks.length f9 n) (cq (dm ks.length)) ax bH (d8 (List.range ks.length)) (keysOf (c4 ks) n) (keysOf (cY ks) m)) (fun i=>ce (((ks.map (fD P))).getD i ex)) (List.range ks.length) [] (by exact List.length_nil.symm▸List.length_range.symm▸(eN ‹_›)) (fun acc i aN f3 K R aZ=>?_) ?_
 ·rw[List.mem_range] at aN
  have h:=hs.all ks[i] (List.getElem_mem _)
  have PD:item (d8 (List.range ks.length)) (.int i)=some (.int (i:Nat)):=by rw[vJ (by rw[List.length_range];exact aN) (by exact List.length_range.symm▸(bO ‹_›)),List.getElem_range]
  have nu:item (.list (h6 (cY ks) ex)) (.int i)=some (ce ks[i].1):=by
   rw[oR (by exact pk ‹_› ‹_›) (by exact g0 ‹_› ‹_›),List.getD_eq_getElem?_getD,List.getElem?_eq_getElem (by exact pk ‹_› ‹_›)];unfold cY;rw[List.getElem_map];rfl
  have Gm:item (.list (h6 (c4 ks) gU)) (.int i)=some (ce ks[i].2.1):=by
   rw[oR (by exact pk ‹_› ‹_›) (by exact g0 ‹_› ‹_›),List.getD_eq_getElem?_getD,List.getElem?_eq_getElem (by exact pk ‹_› ‹_›)];unfold c4;rw[List.getElem_map];rfl
  rw[List.getD_eq_getElem?_getD,List.getElem?_eq_getElem (by rw[List.length_map];exact aN),List.getElem_map] at aZ
  exact b6 PD (b6 nu (b6 PD (b6 Gm (acD h.bL h.aE h.bj (by exact bO ‹_›) (by exact h.OM.symm▸h.FH.symm▸OO) (ap f3 aZ)))))
 have ov:(ks.map (fD P)).length=ks.length:=List.length_map ..
 rw[List.nil_append,<- ov,map_getD,ov]
 refine dA xY (fC (p:=(0:Int)<ks.length) (fun Z=>?_) fun q=>by omega)
 refine acW (acG ahu (by exact g0 ‹_› ‹_›) (fun c bb=>?_) (acV aP aht fun o ho=>?_))
 ·refine aW (List.mem_map.mp bb) fun q aL Et=>?_
  subst Et;exact aZ q aL
 refine bS ho.tj fun ie rP=>?_
 have OQ:=KW ho OO
 have aiC:(fV o P).length=P.length:=by unfold fV;rw[List.length_map,ie]
 refine comp_map (e:=fun i:Nat=>D.int (i:Int)) (g:=fun i=>fb (P.getD i (none,none))) o [] (by exact tx ‹_› ‹_›) (fun i aN K aZ=>b6 (mz (f:=fb) (l:=P) (none,none) (rP i aN) (by exact bO ‹_›)) aZ) ?_
 refine(show ([]:List D)++o.map (fun i=>fb (P.getD i (none,none)))=(fV o P).map fb by unfold fV;rw[List.map_map];rfl).symm▸?_
 refine comp_map (e:=ce) (g:=fun c=>ce (c.pick (o.map some))) (ks.map (fD P)) [] (by exact tx ‹_› ‹_›) (fun c bb K ahw=>?_) fun b=>?_
 ·refine aW (List.mem_map.mp bb) fun q aL aeI=>?_
  subst aeI
  exact Vh (by have:=(aZ q aL).len;exact bO ‹_›) (by exact g0 ‹_› ‹_›) (fun i aN=>by have:=rP i aN;exact ra ‹_› ‹_›) ahw
 skip
 refine sP (by rw[List.length_append,iT,List.length_singleton];exact hO ‹_›) (sP (by rw[List.length_append,iT,List.length_singleton];exact hO ‹_›) (dA aiz (dI (d0 (by exact hO ‹_›)) (lL ?_))))
 refine KX (fun acc=>(117,.aX (cq (dm ks.length++[f9])))::(112,.aX (cq (dm ks.length++[e5])))::(66,.aX (d8 o))::(13,.mt b (.list acc))::(71,.aX (.list ((fV o P).map fb)))::FI (kY (cY ks) ex ks.length e5 m) (kY (c4 ks) gU ks.length f9 n) (cq (dm ks.length)) ax bH (d8 (List.range ks.length)) (keysOf (c4 ks) n) (keysOf (cY ks) m)) ks.length (ce (ex.pick (jg (fV o P)))) ((ks.map (fD P)).map fun c=>ce (c.pick (o.map some))) (fun i aN K R aw ai=>?_) ?_
 ·refine il Ke (k0 (p:=i<ks.length) (fun q=>aw q) fun q=>?_)
  exact b6 (KV (by omega) (by exact g0 ‹_› ‹_›)) (comp_map (e:=fb) (g:=fun p=>g9 p.1) (fV o P) [] (by exact tx ‹_› ‹_›) (fun p Z K aZ=>aZ) (Kc (by exact bO ‹_›) hm (by exact g0 ‹_› ‹_›) OQ (ap (by simp only[List.length_append,List.length_map,List.length_singleton];exact bO ‹_›) (ai (by omega)))))
 refine dA ahv (dI (d0 (by exact hO ‹_›)) (lL ?_))
 refine KX (fun acc=>(117,.aX (cq (dm ks.length++[f9])))::(112,.aX (cq (dm ks.length++[e5])))::(66,.aX (d8 o))::(13,.mt b (.list acc))::(71,.aX (.list ((fV o P).map fb)))::FI (kY (cY ks) ex ks.length e5 m) (kY (c4 ks) gU ks.length f9 n) (cq (dm ks.length)) ax bH (d8 (List.range ks.length)) (keysOf (c4 ks) n) (keysOf (cY ks) m)) ks.length (ce (gU.pick (iX (fV o P)))) _ (fun i aN K R aw ai=>?_) ?_
 ·refine il Ke (k0 (p:=i<ks.length) (fun q=>aw q) fun q=>?_)
  exact b6 (KV (by omega) (by exact g0 ‹_› ‹_›)) (comp_map (e:=fb) (g:=fun p=>g9 p.2) (fV o P) [] (by rw[List.length_nil];exact tx ‹_› ‹_›) (fun p Z K aZ=>aZ) (Kd (by exact bO ‹_›) hn (by exact g0 ‹_› ‹_›) OQ (ap (by simp only[List.length_append,List.length_map,List.length_singleton];exact hO ‹_›) (ai (by omega)))))
 refine dA (f:=hp) (lK (by rw[List.length_map,iT];exact bO ‹_›)) ?_
 refine zf (by rw[List.length_append,iT,List.length_singleton];exact hO ‹_›) (fun b aS=>by have:=cx.len b aS;exact sT ‹_›) (b6 (sD (by omega)) ?_)
 refine zf (by rw[List.length_append,iT,List.length_singleton];exact hO ‹_›) (fun b aS=>by have:=PC.len b aS;exact sT ‹_›) (b6 (sD (by rw[List.length_append];omega)) (dA (Lz (by exact g0 ‹_› ‹_›)) (Mo (by exact g0 ‹_› ‹_›) ?_)))
 have e:(ks.map (fD P)).map (fun c=>ce (c.pick (o.map some)))++[ce (ex.pick (jg (fV o P)))]++[ce (gU.pick (iX (fV o P)))]=(ks.map (fun q=>(fD P q).pick (o.map some))++[ex.pick (jg (fV o P)),gU.pick (iX (fV o P))]).map ce:=by
  rw[List.map_append,List.map_map,List.map_map,List.append_assoc];rfl
 rw[e,aiC]
 exact Mm (by simp only[List.length_append,List.length_map,List.length_cons,List.length_nil];exact sT ‹_›) (by simp only[List.length_append,List.length_map];omega) (av o ho)
theorem ahx{ex gU:cG}{m n:Nat}{e5 f9:Str}{ax bH:Bool}{k:D->Prop}(hm:m<=50)(hn:n<=50)(aE:ex.ae.length<=1000)(bj:gU.ae.length<=1000)(ajS:e5.length<=10)(FH:f9.length<=10)(av:k (outD [ex.pick (jg (iq m n)),gU.pick (iX (iq m n))] (sR [] e5 f9) (iq m n).length)):mY [kY [] ex 0 e5 m,kY [] gU 0 f9 n,cq (dm 0),.bool ax,.bool bH,.list [.str ".x",.str ".y"]] k:=by
 have kN:=Vg hm hn
 have o0:=KU (m:=m) (n:=n)
 obtain⟨kz,iP⟩:=Mx
 have aD:=vp [e5] [f9] [] ".x"
 have ak:=vp [f9] [e5] [] ".y"
 simp only[List.length_cons,List.length_nil] at aD ak
 unfold mY
 refine⟨DM (names:=[e5]) (dh:=[]) (om rfl) (om rfl) (fun Z h=>nomatch h) (DM (names:=[f9]) (dh:=[]) (om rfl) (om rfl) (fun Z h=>nomatch h) (yD hm (yD hn (ack hm hn fun a=>?_))))⟩
 refine dI (d0 (n:=0) (by decide)) ?_
 refine sP (names:=[e5]) (om rfl) (sP (names:=[f9]) (om rfl) (dI (d0 (n:=1) (by decide)) ?_))
 refine comp_map (e:=fb) (g:=fun p=>g9 p.1) (iq m n) [] (by exact eN ‹_›) (fun p Z K aZ=>aZ) (Kc (by exact bO ‹_›) hm (by exact bO ‹_›) o0 (ap (om rfl) (dI (d0 (n:=1) (by decide)) ?_)))
 refine comp_map (e:=fb) (g:=fun p=>g9 p.2) (iq m n) [] (by exact eN ‹_›) (fun p Z K aZ=>aZ) (Kd (by exact bO ‹_›) hn (by exact bO ‹_›) o0 (ap (om rfl) ?_))
 refine zf (names:=[e5]) (others:=[f9]) (dh:=[]) (OL rfl) (fun b aS=>?_) (b6 (sD (xs:=[]) (by exact Nat.succ_pos _)) (zf (names:=[f9]) (others:=[e5]) (dh:=[]) (OL rfl) (fun b aS=>?_) (b6 (sD (by exact hO ‹_›)) (dA (Lz (by exact bO ‹_›)) (Mo (by exact bO ‹_›) (Mm (cs:=[ex.pick (jg (iq m n)),gU.pick (iX (iq m n))]) (om rfl) (by exact hO ‹_›) av))))))
 ·rw[List.mem_singleton] at aS;subst aS;exact sT ‹_›
 ·rw[List.mem_singleton] at aS;subst aS;exact sT ‹_›
end
section
variable {w:World} {B:bC w}
noncomputable def Eu(x:Nat)(ids:List Nat)(W:bh):kL:=fun l ds k=>dO (Nat.beq ds.length ids.length) (∀a,v6 ((x,.mt a (.list l))::ids.zip (gN ds)) [] fun ρ=>W ρ (zo x a k))
theorem ix.run{n:Nat}{r:bV}{x:Nat}{ids:List Nat}{W:bh}(eY:ci B r (x::ids) [] [])(aS:cu B n (bd r.i).scope.names (bd r.i).body W):ix B (n+1) r (fun l ds k=>At (Eu x ids W l ds k)):=
 .of eY aS.h fun l ds k h=>⟨Nat.eq_of_beq_eq_true (eu h.h).1,fun a=>yx (k:=fun ρ=>W ρ (zo x a k)) ((eu h.h).2 a)⟩
noncomputable def h5(l:List D):Prop:=∃(cells:List Int) (pos:Nat) (rest seed:Int),l=[.list (cells.map .int),.int pos,.int rest,.int seed]/\pos<=cells.length/\cells.length<=63
theorem yE(a:Int){b:Int}(h:0<b):∃r:Nat,jE (.int a) (.int b)=some (.int r)/\(r:Int)<b:=by
 refine cQ (Int.eq_ofNat_of_zero_le (Int.fmod_nonneg_of_pos a h)) fun r aA=>?_
 exact⟨r,(if_neg (by lia)).trans (by exact congrArg _ (congrArg _ aA)),by exact aA▸(Int.fmod_lt_of_pos a h)⟩
theorem div_pos(a:Int){b:Int}(h:0<b)(aC:b<=100):sW (.int a) (.int b)=some (.int (Int.fdiv a b)):=if_neg (by
 have:small b=true:=by exact decide_eq_true (by lia)
 refine this.symm▸?_;simp;lia)
theorem Wv(a:Int):fU (.int a) (.int 48271)=some (.int (a * 48271)):=if_pos (lF.mpr (by decide))
@[irreducible] noncomputable def i7:kL:=fun l ds k=>At (Eu 33 [49] (H5) l ds k)
theorem KY:ix B 1 lD i7:=by unfold i7;exact .run Rz (SF)
theorem mE{l:List D}{lim:Int}{k:D->List D->Prop}(aF:h5 l)(h0:0<lim)(aw:lim<=100)(av:∀(r:Nat) l',(r:Int)<lim->h5 l'->k (.int r) l'):i7 l [.int lim] k:=by
 refine l0 aF fun cells pos rest seed l2 aH aK=>?_
 subst l2
 have xY:c8 [.list (cells.map .int)]=some (.int cells.length):=(kX (by rw[List.length_map];exact bO ‹_›)).trans (by rw[List.length_map])
 unfold i7
 refine⟨fun a=>⟨rfl,fC (p:=rest=0) (fun q=>⟨rfl,⟨rfl,dA xY (fC (p:=(pos:Int)=cells.length) (fun cK=>?_) fun cK=>?_)⟩⟩) fun q=>?_⟩⟩
 ·refine aW (yE (Int.fdiv (Int.fmod (seed * 48271) 2147483647) 7) h0) fun r aD ak=>?_
  exact⟨rfl,b6 (Wv seed) ⟨rfl,⟨rfl,b6 aD ⟨rfl,av r _ ak ⟨cells,pos,_,_,rfl,aH,aK⟩⟩⟩⟩⟩
 ·have bc:pos<cells.length:=by lia
  have iA:item (.list (cells.map .int)) (.int pos)=some (.int cells[pos]):=h1 (by exact ra ‹_› ‹_›) (by rw[List.getElem?_map,List.getElem?_eq_getElem bc];rfl)
  refine⟨rfl,⟨rfl,b6 iA ⟨rfl,⟨rfl,fC (p:=(0:Int)<=cells[pos]) (fun hc=>⟨rfl,?_⟩) fun hc=>⟨rfl,?_⟩⟩⟩⟩⟩
  ·refine cQ (yE cells[pos] h0) fun r aeJ=>?_
   obtain⟨aD,ak⟩:=aeJ
   exact⟨rfl,b6 aD ⟨rfl,b6 (div_pos _ h0 aw) ⟨rfl,⟨rfl,av r _ ak ⟨cells,pos+1,_,_,rfl,bc,aK⟩⟩⟩⟩⟩
  ·refine cQ (yE (-cells[pos]) h0) fun r Ev=>?_
   obtain⟨aD,ak⟩:=Ev
   exact⟨rfl,b6 aD ⟨rfl,b6 (div_pos _ h0 aw) ⟨rfl,⟨rfl,av r _ ak ⟨cells,pos+1,_,_,rfl,bc,aK⟩⟩⟩⟩⟩
 ·refine aW (yE rest h0) fun r aD ak=>?_
  exact⟨rfl,b6 aD ⟨rfl,b6 (div_pos _ h0 aw) ⟨rfl,⟨rfl,av r _ ak ⟨cells,pos,_,_,rfl,aH,aK⟩⟩⟩⟩⟩
end
section
variable {w:World} {B:bC w}
theorem Js{x m:Nat}{f8:bG}(P:List D->aO){k:List D->aO->Prop}(dw:∀d l,h5 l->∀K:D->aO->Prop,(∀(r:Nat) l',r<m->h5 l'->K (.int r) ((x,.aX d)::P l'))->f8 ((x,.aX d)::P l) K):∀(ds acc:List D) (l:List D),acc.length+ds.length<=10000->h5 l->
  (∀(rs:List Nat) l',rs.length=ds.length->(∀r∈rs,r<m)->h5 l'->k (acc++rs.map fun r:Nat=>.int r) (P l'))->fJ x cg (cy f8) ds acc (P l) k
 | [],acc,l,Z,h,av=>by
  have:=av [] l rfl (fun Z h=>nomatch h) h
  rw[List.map_nil,List.append_nil] at this;exact this
 | d::ds,acc,l,a5,h,av=>by
  replace a5:=List.length_cons▸a5
  refine tU (by lia) (dw d l h _ fun r l' aA eE=>?_)
  refine Js P dw ds (acc++[.int r]) l' (by rw[List.length_append,List.length_singleton];lia) eE fun rs rF aw ai a3=>?_
  have:=av (r::rs) rF (by rw[List.length_cons,List.length_cons,aw]) (fun x aE=>by cases aE with|head=>exact aA|tail _ aE=>exact ai x aE) a3
  rw[List.append_assoc];exact this
inductive nw where
 | int|dbl|chr|c1
noncomputable def pB:nw->Str|.int=>"integer"|.dbl=>"double"|.chr=>"character"|.c1=>"factor"
noncomputable def kg:List (List Str):=[["v","u","w"],["x","v"],["u"]]
noncomputable def tY:nw->eQ->Prop
 | .int,.int=>True
 | .dbl,.dbl=>True
 | .chr,.chr=>True
 | .c1,.c1 lv=>lv∈kg
 | Z,bt=>False
noncomputable def vInt(r:Nat):bY:=if r=5 then .na else .i ((r:Int) - 1)
theorem KZ{r:Nat}(h:r<6):fF .int (vInt r)/\fF .dbl (vInt r):=by
 have:r=0∨r=1∨r=2∨r=3∨r=4∨r=5:=by lia
 rcases this with rfl|rfl|rfl|rfl|rfl|rfl <;> first|exact⟨trivial,trivial⟩|exact⟨by show five.contains _=true;decide,by show five.contains _=true;decide⟩
noncomputable def zA(r:Nat):bY:=if r=5 then .na else .s (iW.getD r "")
theorem K0{r:Nat}(h:r<6):fF .chr (zA r)/\(r≠5->item (.str "uvwxy") (.int r)=some (dg .chr (zA r))):=by
 have:r=0∨r=1∨r=2∨r=3∨r=4∨r=5:=by lia
 rcases this with rfl|rfl|rfl|rfl|rfl|rfl
 ·exact⟨by show ("u":Str)∈iW;trivial,fun Z=>by kernel_rfl⟩
 ·exact⟨by show ("v":Str)∈iW;trivial,fun Z=>by kernel_rfl⟩
 ·exact⟨by show ("w":Str)∈iW;trivial,fun Z=>by kernel_rfl⟩
 ·exact⟨by show ("x":Str)∈iW;trivial,fun Z=>by kernel_rfl⟩
 ·exact⟨by show ("y":Str)∈iW;trivial,fun Z=>by kernel_rfl⟩
 ·exact⟨trivial,fun h=>absurd rfl h⟩
noncomputable def pa(lv:List Str)(r:Nat):bY:=if r=5 then .na else .s (lv.getD (r % lv.length) "")
theorem Ww:∀lv∈kg,(eQ.c1 lv).ok:=by
 intro lv h
 have:∀lv∈kg,lv.Nodup/\(∀t∈lv,t∈iW)/\lv.length<=100:=by decide +kernel
 exact this lv h
theorem K1{lv:List Str}(h:lv∈kg){r:Nat}(aA:r<6):fF (.c1 lv) (pa lv r)/\(r≠5->dg (.c1 lv) (pa lv r)=.int (1+Int.fmod r lv.length)):=by
 by_cases q:r=5
 ·subst q;exact⟨trivial,fun h=>absurd rfl h⟩
 ·have:=(show ∀lv∈kg,∀r<5,(lv.getD (r % lv.length) "")∈lv/\((lv.idxOf (lv.getD (r % lv.length) "")+1:Nat):Int)=1+Int.fmod r lv.length from by decide +kernel) lv h r (by (first|lia|omega))
  unfold pa
  exact(if_neg q).symm▸(⟨this.1,fun Z=>by show D.int _=_;rw[this.2]⟩)
@[irreducible] noncomputable def q6:kL:=fun l ds k=>At (Eu 33 [43,53] (He i7) l ds k)
theorem YF:ix B 3 oJ q6:=by unfold q6;exact .run Qu (Rk (n:=0) (KY.le (by decide)))
theorem LD{l:List D}{xZ:nw}{many:Nat}{k:D->List D->Prop}(aF:h5 l)(hm:many<=10)(av:∀c l',tY xZ c.kd->c.Ok 10->c.ae.length=many->h5 l'->k (ce c) l'):q6 l [.str (pB xZ),.int many] k:=by
 have fin:∀(kd:eQ) (f:Nat->bY) (rs:List Nat) l',tY xZ kd->kd.ok->(∀r∈rs,fF kd (f r))->rs.length=many->h5 l'->k (.vec (m8 kd) (.list (rs.map fun r=>dg kd (f r))) (FC kd)) l':=fun kd f rs l' aw ai a3 bn bN=>by
  have:=av ⟨kd,rs.map f⟩ l' aw ⟨ai,by rw[List.length_map];exact g0 ‹_› ‹_›,fun v aP=>by refine aW (List.mem_map.mp aP) fun r h l8=>?_;subst l8;exact a3 r h⟩ (by rw[List.length_map];exact bn) bN
  unfold ce at this;rw[List.map_map] at this;exact this
 unfold q6
 refine⟨fun a=>dI (d0 (by exact bO ‹_›)) (Js (m:=6) (fun l=>[(53,.aX (.int many)),(43,.aX (.str (pB xZ))),(33,.mt a (.list l))]) (fun d l aF K aZ=>⟨rfl,mE aF (by decide) (by decide) fun r l' aA eE=>aZ r l' (by lia) eE⟩) (eR 0 many 1) [] l (by rw[hk,List.length_map,List.length_range,List.length_nil];exact eN ‹_›) aF fun rs l' ol aA eE=>?_)⟩
 rw[hk,List.length_map,List.length_range] at ol
 have kN:([]:List D).length+rs.length<=10000:=by exact tx ‹_› ‹_›
 cases xZ with
 | int=>
  refine comp_map (e:=fun r:Nat=>.int r) (g:=fun r=>dg .int (vInt r)) rs [] kN (fun r h K aZ=>fC (p:=(r:Int)=5) (fun q=>?_) fun q=>?_) ⟨rfl,fin .int vInt rs l' trivial trivial (fun r h=>(KZ (aA r h)).1) ol eE⟩
  ·obtain rfl:r=5:=by lia
   exact aZ
  ·rw[show vInt r=.i ((r:Int) - 1) from if_neg (by lia)] at aZ;exact aZ
 | dbl=>
  refine comp_map (e:=fun r:Nat=>.int r) (g:=fun r=>dg .dbl (vInt r)) rs [] kN (fun r h K aZ=>fC (p:=(r:Int)=5) (fun q=>?_) fun q=>?_) ⟨rfl,fin .dbl vInt rs l' trivial trivial (fun r h=>(KZ (aA r h)).2) ol eE⟩
  ·obtain rfl:r=5:=by lia
   exact aZ
  ·rw[show vInt r=.i ((r:Int) - 1) from if_neg (by lia)] at aZ;exact aZ
 | chr=>
  refine comp_map (e:=fun r:Nat=>.int r) (g:=fun r=>dg .chr (zA r)) rs [] kN (fun r h K aZ=>fC (p:=(r:Int)=5) (fun q=>?_) fun q=>?_) ⟨rfl,fin .chr zA rs l' trivial trivial (fun r h=>(K0 (aA r h)).1) ol eE⟩
  ·obtain rfl:r=5:=by lia
   exact aZ
  ·exact b6 ((K0 (aA r h)).2 (by lia)) aZ
 | c1=>
  refine⟨rfl,mE eE (by decide) (by decide) fun j rF bL wR=>?_⟩
  have turn:∀lv∈kg,∀r∈rs,∀(K:D->aO->Prop) ρ,K (dg (.c1 lv) (pa lv r)) ((65,.aX (.int r))::(48,.aX (.list (lv.map .str)))::ρ)->dK (bl (ag 65) (au (.int 5)) (a6 ck)) (au .none) (ak (au (.int 1)) (ak (ag 65) (aT (a8 c8) (aj (ag 48) az)) (f2 jE)) (f2 c7)) ((65,.aX (.int r))::(48,.aX (.list (lv.map .str)))::ρ) K:=by
   intro lv OS r h K ρ aZ
   have hlen:0<lv.length/\lv.length<=100:=by
    have:∀lv∈kg,0<lv.length/\lv.length<=100:=by decide +kernel
    exact this lv OS
   refine fC (p:=(r:Int)=5) (fun q=>?_) fun q=>?_
   ·obtain rfl:r=5:=by lia
    exact aZ
   ·rw[(K1 OS (aA r h)).2 (by lia)] at aZ
    exact dA (qX (by lia)) (b6 (d:=.int (Int.fmod r lv.length)) (if_neg (by lia)) aZ)
  have end_:=fun lv (h:lv∈kg)=>fin (.c1 lv) (pa lv) rs rF h (Ww lv h) (fun r m3=>(K1 h (aA r m3)).1) ol wR
  rcases(show j=0∨j=1∨j=2 from by lia) with rfl|rfl|rfl
  ·exact comp_map (e:=fun r:Nat=>.int r) (g:=fun r=>dg (.c1 ["v","u","w"]) (pa ["v","u","w"] r)) rs [] kN (fun r h K aZ=>turn _ (by trivial) r h K _ aZ) fun b=>⟨rfl,end_ ["v","u","w"] (by trivial)⟩
  ·exact comp_map (e:=fun r:Nat=>.int r) (g:=fun r=>dg (.c1 ["x","v"]) (pa ["x","v"] r)) rs [] kN (fun r h K aZ=>turn _ (by trivial) r h K _ aZ) fun b=>⟨rfl,end_ ["x","v"] (by trivial)⟩
  ·exact comp_map (e:=fun r:Nat=>.int r) (g:=fun r=>dg (.c1 ["u"]) (pa ["u"] r)) rs [] kN (fun r h K aZ=>turn _ (by trivial) r h K _ aZ) fun b=>⟨rfl,end_ ["u"] (by trivial)⟩
end
section
variable {w:World} {B:bC w}
@[irreducible] noncomputable def rm:aU:=fun ds k=>At (Run [13,61,84] [] (GI) ds k)
theorem acY:bg B 3 oH rm:=by unfold rm;exact .wall (.run PU (Qj (n:=0)))
theorem My{cols names:List D}{gT:D}{k:D->Prop}(a5:names.length<=10000)(av:k (kb cols names gT)):rm [.list cols,.list names,gT] k:=by
 unfold rm
 exact⟨fun a=>dA (lK a5) av⟩
@[irreducible] noncomputable def wS:aU:=fun ds k=>At (Run [106] [] (Gw) ds k)
theorem acZ:bg B 1 pU wS:=by unfold wS;exact .wall (.run PO (P1))
theorem ac0{c:cG}{k:D->Prop}(av:k (.bool c.kd.fT)):wS [ce c] k:=by
 obtain⟨kd,ae⟩:=c
 unfold wS
 constructor
 cases kd <;> exact Eq.mpr (by kernel_rfl) av
noncomputable def wT(kd:eQ)(v:bY):D:=match kd with|.c1 _=>f6 v|kd=>dg kd v
@[irreducible] noncomputable def pd:aU:=fun ds k=>At (Run [106] [] (HF wS) ds k)
theorem ac1:bg B 2 oL pd:=by unfold pd;exact .wall (.run Q0 (R4 acZ))
theorem DQ{c:cG}{k:D->Prop}(bb:c.Ok 5000)(av:k (.list (c.ae.map (wT c.kd)))):pd [ce c] k:=by
 have aF:=bb.len
 have aN:=bb.ea
 have rD:=bb.kd
 have hf:=fun k=>ac0 (c:=c) (k:=k)
 obtain⟨kd,ae⟩:=c
 dsimp only at aF aN rD av
 unfold pd
 constructor
 cases kd with
 | c1 lv=>
  refine hf _ (comp_map (e:=dg (.c1 lv)) (g:=f6) ae [] (by exact eN ‹_›) (fun v h K aZ=>?_) av)
  have aP:=aN v h
  cases v with
  | na=>exact aZ
  | s t=>
   have aw:lv.idxOf t<lv.length:=List.idxOf_lt_length_of_mem aP
   have iA:item (.list (lv.map .str)) (.int (((lv.idxOf t+1:Nat):Int) - 1))=some (.str t):=by
    rw[show ((lv.idxOf t+1:Nat):Int) - 1=(lv.idxOf t:Nat) by lia]
    exact h1 (by have:=rD.2.2;exact jc ‹_› ‹_›) (by rw[List.getElem?_map,List.getElem?_eq_getElem aw,List.getElem_idxOf];rfl)
   exact b6 iA aZ
  | i n=>exact aP.elim
  | q n=>exact aP.elim
 | int=>exact hf _ (dA (lK (by rw[List.length_map];exact Nat.le_trans aF (by decide))) av)
 | dbl=>exact hf _ (dA (lK (by rw[List.length_map];exact Nat.le_trans aF (by decide))) av)
 | chr=>exact hf _ (dA (lK (by rw[List.length_map];exact Nat.le_trans aF (by decide))) av)
noncomputable def cT:bY->D|.i n=>.int n|.s t=>.str t|_=>.none
@[irreducible] noncomputable def n7:aU:=fun ds k=>At (Run [35] [] (HG) ds k)
theorem ac2:bg B 1 oM n7:=by unfold n7;exact .wall (.run Q1 (R5))
theorem Mz{kd:eQ}{v:bY}{k:D->Prop}(h:fF kd v)(av:k (cT v)):n7 [wT kd v] k:=by
 unfold n7
 constructor
 cases v with
 | q n=>cases kd <;> exact h.elim
 | na=>cases kd <;> exact Eq.mpr (by kernel_rfl) av
 | i n=>cases kd <;> first|exact h.elim|exact Eq.mpr (by kernel_rfl) av
 | s t=>cases kd <;> first|exact h.elim|exact Eq.mpr (by kernel_rfl) av
inductive jG:D->D->Prop
 | nn:jG .none .none
 | AA (n:Int):jG .none (.int n)
 | ns (s:Str):jG .none (.str s)
 | z8 (n:Int):jG (.int n) .none
 | sn (s:Str):jG (.str s) .none
 | ii (a b:Int) (bp:-1<=a) (aS:-1<=b):jG (.int a) (.int b)
 | ss (a b:Str):jG (.str a) (.str b)
theorem YG{a b:Str}:(0::a.cps.toList)=(0::b.cps.toList)↔a=b:=by
 obtain⟨⟨a⟩⟩:=a;obtain⟨⟨b⟩⟩:=b
 simp
theorem DR{a b:D}(h:jG a b):gf a b=some (!decide (ct a=ct b)):=by
 cases h with
 | ii a b bp aS=>
  show some (!decide (a=b))=some (!decide ([0,(a+1).toNat]=[0,(b+1).toNat]))
  congr 2
  have:a=b↔[0,(a+1).toNat]=[0,(b+1).toNat]:=by simp;lia
  simp only[this]
 | ss a b=>
  show some (!decide (a=b))=some (!decide ((0::a.cps.toList)=(0::b.cps.toList)))
  simp only[YG]
 | nn=>rfl
 | AA|ns|z8|sn=>exact congrArg (fun b:Bool=>some !b) (decide_eq_false (fun h=>absurd (List.cons.inj h).1 (by decide))).symm
@[irreducible] noncomputable def vZ:aU:=fun ds k=>At (Run [65,105] [] (H6) ds k)
theorem Wx:bg B 1 qv vZ:=by unfold vZ;exact .wall (.run RA (SG))
theorem Cr{a b:D}{k:D->Prop}(h:jG a b)(av:k (.bool (decide (ct a<ct b)))):vZ [a,b] k:=by
 unfold vZ
 constructor
 cases h with
 | ii a b bp aS=>rw[show decide (ct (.int a)<ct (.int b))=decide (a<b) from decide_eq_decide.mpr (qZ bp aS)] at av;exact av
 | ss a b=>rw[show decide (ct (.str a)<ct (.str b))=decide (a.cps.toList<b.cps.toList) from decide_eq_decide.mpr CQ] at av;exact av
 | nn=>exact av
 | AA n=>rw[show decide (ct .none<ct (.int n))=false from decide_eq_false (show ¬([1]:List Nat) < [0,_] from by simp[List.cons_lt_cons_iff])] at av;exact av
 | ns s=>rw[show decide (ct .none<ct (.str s))=false from decide_eq_false (show ¬([1]:List Nat)<0::_ from by simp[List.cons_lt_cons_iff])] at av;exact av
 | z8 n=>rw[show decide (ct (.int n)<ct .none)=true from decide_eq_true (show ([0,_]:List Nat) < [1] from by simp[List.cons_lt_cons_iff])] at av;exact av
 | sn s=>rw[show decide (ct (.str s)<ct .none)=true from decide_eq_true (show (0::_:List Nat) < [1] from by simp[List.cons_lt_cons_iff])] at av;exact av
inductive zB:List D->List D->Prop
 | one {a b:D} (h:jG a b):zB [a] [b]
 | two {a b kK b':D} (h:jG a b) (aC:jG kK b'):zB [a,kK] [b,b']
theorem CU{a b:List Nat}:[a] < [b]↔a<b:=by simp[List.cons_lt_cons_iff]
theorem CV{a b c d:List Nat}:[a,c] < [b,d]↔a<b∨a=b/\c<d:=by simp[List.cons_lt_cons_iff]
@[irreducible] noncomputable def sS:aU:=fun ds k=>At (Run [65,105] [] (Hg vZ) ds k)
theorem YH:bg B 2 qc sS:=by unfold sS;exact .wall (.run Qw (Rn Wx))
theorem YJ{as bs:List D}{k:D->Prop}(h:zB as bs)(av:k (.bool (decide (as.map ct<bs.map ct)))):sS [.list as,.list bs] k:=by
 unfold sS
 constructor
 cases h with
 | @one a b h=>
  replace av:=(show decide ([a].map ct < [b].map ct)=decide (ct a<ct b) from decide_eq_decide.mpr CU)▸av
  refine dI (d0 (n:=1) (by decide)) (il (DR h) (k0 (p:=ct a=ct b) (fun q=>?_) fun q=>Cr h av))
  rw[decide_eq_false (by exact q.symm▸(List.lt_irrefl _))] at av;exact av
 | @two a b kK b' h aC=>
  rw[show decide ([a,kK].map ct < [b,b'].map ct)=_ from decide_eq_decide.mpr CV] at av
  refine dI (d0 (n:=2) (by decide)) (il (DR h) (k0 (p:=ct a=ct b) (fun q=>?_) fun q=>Cr h ?_))
  ·replace av:=(show decide (ct a<ct b∨ct a=ct b/\ct kK<ct b')=decide (ct kK<ct b') from decide_eq_decide.mpr (by rw[q];simp[List.lt_irrefl]))▸av
   refine il (DR aC) (k0 (p:=ct kK=ct b') (fun q=>?_) fun q=>Cr aC av)
   rw[decide_eq_false (by rw[q];exact List.lt_irrefl _)] at av;exact av
  ·rw[show decide (ct a<ct b∨ct a=ct b/\ct kK<ct b')=decide (ct a<ct b) from decide_eq_decide.mpr (by simp[q])] at av;exact av
noncomputable def pe(f:Bool)(lv:List Str)(t:bY):D:=match t with|.na=>.none|.s s=>if f then .int (lv.idxOf s:Nat) else .str s|t=>cT t
noncomputable abbrev md:=List (Bool×List Str)
noncomputable def we(cN:md)(ts:List bY):List D:=List.zipWith (fun p t=>pe p.1 p.2 t) cN ts
noncomputable def FJ(p:Bool×List Str)(t:bY):Prop:=match t with|.na=>True|.s s=>p.1=true->s∈p.2|.i _=>p.1=false|.q _=>False
noncomputable def M9(p:c3)(ts:List bY):D:=.tup [g9 p.1,g9 p.2,.tup (ts.map cT)]
noncomputable def pf(j:Nat)(cN:md)(ts:List bY):List D:=match j with
 | 0=>we cN ts
 | 1=>[cT (ts.getD 0 .na)]
 | Z=>[.str (o4 ts)]
noncomputable def zg(j:Nat)(cN:md):List D:=match j with
 | 0=>[.list (cN.map fun p=>.bool p.1),.list (cN.map fun p=>cq p.2),.int cN.length]
 | Z=>[]
structure MA(cN:md)(ts:List bY):Prop where
 le:cN.length<=2
 len:ts.length=cN.length
 pos:0<cN.length
 ea:∀v∈ts,er v
 key:∀i,(h:i<cN.length)->(aC:i<ts.length)->FJ cN[i] ts[i]
 lv:∀p∈cN,p.2.length<=1000
noncomputable def zC(xs:List Nat)(W:bG)(cs ds:List D)(k:D->Prop):Prop:=dO (Nat.beq cs.length xs.length) (match ds with|[d]=>dO (i1 (jA xs cs) 82) (putK (jA xs cs) 82 (.aX d) fun ρ=>W ρ fun d Z=>k d)|_=>False)
theorem jz.run{n j:Nat}{xs:List Nat}{W:bG}(aS:bI B n (cP j).scope.names (cP j).body W)(iN:Dy j 82 xs=true)(i9:∀q cl pm cV fX v,bindArgs (kla_fn "<lambda>" q (cP j).params (cP j).body (cP j).scope cl pm cV fX) ⟨[v],[]⟩=pure [(nm 82,v)]):jz B (n+1) j (zC xs W):=.of (x:=82) (xs:=xs) aS iN i9 fun cs ds k h=>by
 refine bS (eu h) fun aw ai=>?_
 match ds,ai with
 | [d],ai=>exact⟨Nat.eq_of_beq_eq_true aw,d,rfl,(eu ai).1,lM (k:=fun ρ=>W ρ fun d Z=>k d) (eu ai).2⟩
@[irreducible] noncomputable def q7:Nat->List D->List D->(D->Prop)->Prop:=fun j cs ds k=>At (match j with|0=>zC [24,48,109] D8 cs ds k|1=>zC [] D9 cs ds k|2=>zC [] Ea cs ds k|_=>False)
theorem Wy:∀j,jz B 1 j (q7 j):=fun j g cs ds v vals k aA cJ bb=>by
 unfold q7 at bb
 replace bb:=bb.h
 match j,bb with
 | 0,bb=>exact jz.run (n:=0) aew (by decide +kernel) (fun Z Z Z Z Z Z=>by kernel_rfl) g cs ds v vals k aA cJ bb
 | 1,bb=>exact jz.run (n:=0) aex (by decide +kernel) (fun Z Z Z Z Z Z=>by kernel_rfl) g cs ds v vals k aA cJ bb
 | 2,bb=>exact jz.run (n:=0) aey (by decide +kernel) (fun Z Z Z Z Z Z=>by kernel_rfl) g cs ds v vals k aA cJ bb
theorem item_tup{l:List D}{i:Nat}{d:D}(aN:i<=100000)(h:l[i]?=some d):item (.tup l) (.int i)=some d:=by
 exact h1 aN h
theorem aeK{v:bY}{ρ:aO}{K:D->aO->Prop}(h:er v)(aZ:K (.str (ki v)) ((65,.aX (cT v))::ρ)):dK (bl (ag 65) (au .none) (a6 ec)) (au (.str "NA")) (aT (a8 jd) (aj (ag 65) az)) ((65,.aX (cT v))::ρ) K:=by
 cases v with
 | na=>exact aZ
 | i n=>exact dA (f:=jd) (d:=.str (hX n)) (if_pos (lF.mpr (by rcases so h with rfl|rfl|rfl|rfl|rfl <;> decide))) aZ
 | s t=>exact aZ
 | q n=>exact h.elim
theorem LI{j:Nat}{cN:md}{p:c3}{ts:List bY}{k:D->Prop}(bL:j<=2)(h:MA cN ts)(av:k (.list (pf j cN ts))):q7 j (zg j cN) [M9 p ts] k:=by
 have aF:=h.len
 have ai:=h.le
 have h0:=h.pos
 unfold q7
 constructor
 match j,bL,av with
 | 0,Z,av=>
  have ov:(we cN ts).length=cN.length:=by unfold we;rw[List.length_zipWith];omega
  refine dI (d0 (n:=cN.length) (by exact bO ‹_›)) ?_
  show fJ _ _ _ (eR 0 cN.length 1) _ _ _
  rw[hk]
  refine comp_map (e:=fun i:Nat=>D.int (i:Int)) (g:=fun i=>(we cN ts).getD i .none) _ [] (by exact List.length_nil.symm▸List.length_range.symm▸(eN ‹_›)) (fun i aN K aZ=>?_) ?_
  ·rw[List.mem_range] at aN
   have pr:i<ts.length:=(by exact pk ‹_› ‹_›)
   have gS:item (.tup (ts.map cT)) (.int i)=some (cT ts[i]):=item_tup (by omega) (by rw[List.getElem?_map,List.getElem?_eq_getElem pr];rfl)
   have oF:item (.list (cN.map fun p=>.bool p.1)) (.int i)=some (.bool cN[i].1):=h1 (by omega) (by rw[List.getElem?_map,List.getElem?_eq_getElem aN];rfl)
   have PE:item (.list (cN.map fun p=>cq p.2)) (.int i)=some (cq cN[i].2):=h1 (by omega) (by rw[List.getElem?_map,List.getElem?_eq_getElem aN];rfl)
   have aiD:(we cN ts).getD i .none=pe cN[i].1 cN[i].2 ts[i]:=by
    rw[List.getD_eq_getElem?_getD,List.getElem?_eq_getElem (by lia)];exact List.getElem_zipWith
   rw[aiD] at aZ
   have ok:=h.key i aN pr
   have aP:=h.ea _ (List.getElem_mem pr)
   have a5:=h.lv _ (List.getElem_mem aN)
   generalize ts[i]=t at gS aZ ok aP
   generalize cN[i]=q at oF PE aZ ok a5
   obtain⟨f,lv⟩:=q
   cases t with
   | na=>exact b6 gS aZ
   | i n=>
        obtain rfl:f=false:=ok
        exact b6 gS (b6 oF (b6 gS aZ))
   | s t=>
    cases f with
    | false=>exact b6 gS (b6 oF (b6 gS aZ))
    | true=>
     have ai:nQ (cq lv) [.str t]=some (.int (lv.idxOf t:Nat)):=(B3 (show lv.length<=10000 by exact bO ‹_›)).trans (by rw[yc (ok rfl)];rfl)
     exact b6 gS (b6 oF (b6 PE (b6 gS (nW ai aZ))))
   | q n=>exact aP.elim
  ·rw[List.nil_append,<- ov,map_getD (fun d=>d),List.map_id'];exact av
 | 1,Z,av=>
  have gS:item (.tup (ts.map cT)) (.int 0)=some (cT (ts.getD 0 .na)):=item_tup (i:=0) (by decide) (by
   rw[List.getElem?_map,List.getD_eq_getElem?_getD,List.getElem?_eq_getElem (by omega:0<ts.length)];rfl)
  exact b6 gS av
 | 2,Z,av=>
  have x1:mL (.str "\x0d") [.list (ts.map fun v=>.str (ki v))]=some (.str (o4 ts)):=by
   have:=B4 (s:="\x0d") (xs:=ts.map ki) (by
    have:=CN (f:=fun v=>(ki v).length) (m:=2) ts fun v aP=>B7 v (h.ea v aP)
    refine List.map_map.symm▸?_
    rw[List.length_map,(show ("\x0d":Str).length=1 from by decide +kernel)]
    show (ts.map fun v=>(ki v).length).sum+_<=_
    omega)
   exact List.map_map▸this
  exact comp_map (e:=cT) (g:=fun v=>.str (ki v)) ts [] (by exact tx ‹_› ‹_›) (fun v aP K aZ=>aeK (h.ea v aP) aZ) (nW x1 av)
end
section
variable {w:World} {B:bC w}
noncomputable def ltAt{α:Type}(lt:α->α->Bool)(x:α)(l:List α)(n:Nat):Bool:=match l[n]? with|some y=>lt x y|none=>false
noncomputable def hv{α:Type}(lt:α->α->Bool)(x:α)(l:List α):Nat->Nat
 | 0=>0
 | n+1=>if ltAt lt x l n=true then hv lt x l n else n+1
noncomputable def jh{α:Type}(lt:α->α->Bool)(l:List α)(x:α):List α:=l.take (hv lt x l l.length)++x::l.drop (hv lt x l l.length)
noncomputable def nY{α:Type}(lt:α->α->Bool)(l:List α):List α:=l.foldl (jh lt) []
theorem Ct{α:Type}(lt:α->α->Bool)(x:α)(l:List α):∀n,hv lt x l n<=n
 | 0=>Nat.le_refl _
 | n+1=>by
  unfold hv
  split
  ·have:=Ct lt x l n;exact Nat.le_succ_of_le ‹_›
  ·exact Nat.le_refl _
theorem Kf{α β:Type}(lt:β->β->Bool)(f:α->β)(x:α)(l:List α):∀n,hv lt (f x) (l.map f) n=hv (fun a b=>lt (f a) (f b)) x l n
 | 0=>rfl
 | n+1=>by
  have e:ltAt lt (f x) (l.map f) n=ltAt (fun a b=>lt (f a) (f b)) x l n:=by
   unfold ltAt
   refine(List.getElem?_map).symm▸?_
   cases l[n]? <;> rfl
  unfold hv
  rw[Kf lt f x l n,e]
theorem Vi{α β:Type}(lt:β->β->Bool)(f:α->β)(l:List α)(x:α):jh lt (l.map f) (f x)=(jh (fun a b=>lt (f a) (f b)) l x).map f:=by
 unfold jh
 rw[Kf,List.length_map,<- List.map_take,<- List.map_drop,List.map_append,List.map_cons]
theorem Uw{α β:Type}(lt:β->β->Bool)(f:α->β)(l:List α):nY lt (l.map f)=(nY (fun a b=>lt (f a) (f b)) l).map f:=by
 have:∀(l acc:List α),(l.map f).foldl (jh lt) (acc.map f)=(l.foldl (jh fun a b=>lt (f a) (f b)) acc).map f:=fun l=>by
  induction l with
  | nil=>intro acc;rfl
  | cons a l c9=>intro acc;rw[List.map_cons,List.foldl_cons,List.foldl_cons,Vi,c9]
 exact this l []
theorem Jt{α:Type}(lt:α->α->Bool)(l:List α)(x:α):(jh lt l x).Perm (x::l):=by
 have:=List.take_append_drop (hv lt x l l.length) l
 refine List.perm_middle.trans ?_
 rw[this]
theorem Ju{α:Type}(lt:α->α->Bool)(x:α)(l:List α):∀n≤l.length,(∀j,hv lt x l n<=j->j<n->∀y,l[j]?=some y->lt x y=true)/\∀m,hv lt x l n=m+1->∀y,l[m]?=some y->lt x y=false
 | 0,Z=>⟨fun j Z h=>absurd h (Nat.not_lt_zero j),fun m h=>by cases h⟩
 | n+1,hn=>by
  obtain⟨aw,ai⟩:=Ju lt x l n (Nat.le_of_lt ‹_›)
  have cR:=List.getElem?_eq_getElem (‹_›)
  have e:ltAt lt x l n=lt x l[n]:=by unfold ltAt;rw[cR]
  unfold hv
  refine e.symm▸?_
  cases q:lt x l[n] with
  | true=>
   skip
   refine⟨fun j bL ahy y bj=>?_,ai⟩
   by_cases e:j=n
   ·subst e;replace bj:=cR▸bj;obtain rfl:=Option.some.inj bj;exact q
   ·exact aw j bL (by lia) y bj
  | false=>
   rw[if_neg Bool.false_ne_true]
   refine⟨fun j bL ahy=>by exact absurd ‹_› (Nat.not_lt.mpr ‹_›),fun m hm y bj=>?_⟩
   have:m=n:=by lia
   subst this
   replace bj:=cR▸bj;obtain rfl:=Option.some.inj bj;exact q
noncomputable abbrev Row:=c3×List bY
noncomputable def dR(r:Row):D:=M9 r.1 r.2
noncomputable def gO(j:Nat)(cN:md)(a b:Row):Bool:=decide ((pf j cN a.2).map ct<(pf j cN b.2).map ct)
structure LsOk(j:Nat)(cN:md)(rows:List Row):Prop where
 bL:j<=2
 row:∀r∈rows,MA cN r.2
 key:∀a∈rows,∀b∈rows,zB (pf j cN a.2) (pf j cN b.2)
noncomputable abbrev ahz:db:=(eW (bl (ag 4) (au (.int 0)) (a6 hS)) (eW (dy (aT sS (aj (qU 42 q7 (aj (ag 82) az)) (aj (qU 42 q7 (aj (ja 30 (ak (ag 4) (au (.int 1)) (f2 gq))) az)) az)))) cg))
noncomputable abbrev ahA:bh:=(ay (kh 4 (au (.int 1)) (f2 gq)) aJ)
noncomputable abbrev FK(j:Nat)(cN:md)(rows:D)(a:Addr)(acc:List Row):aO:=[(30,.mt a (.list (acc.map dR))),(42,.aX (.fn j (zg j cN))),(84,.aX rows)]
theorem Vj{j:Nat}{cN:md}{rows:List Row}{PF:D}(H:LsOk j cN rows){a:Addr}{acc:List Row}{x:Row}(aE:x∈rows)(bp:∀y∈acc,y∈rows)(a5:acc.length<=5000){k:dM->aO->Prop}(av:k .cx ((4,.aX (.int (hv (gO j cN) x acc acc.length:Nat)))::(82,.aX (dR x))::FK j cN PF a acc)):
  ∀(m n:Nat),n<m->n<=acc.length->hv (gO j cN) x acc n=hv (gO j cN) x acc acc.length->tG [] ahz ahA m ((4,.aX (.int n))::(82,.aX (dR x))::FK j cN PF a acc) k:=by
 intro m
 induction m with
 | zero=>intro n h;lia
 | succ m c9=>
  intro n hm hn bc
  refine fC (p:=(0:Int)<(n:Int)) (fun q=>?_) fun q=>?_
  ·match n,hm,hn,bc with
   | n+1,hm,hn,bc=>
    have cR:=List.getElem?_eq_getElem (‹_›)
    have iA:item (.list (acc.map dR)) (.int (((n+1:Nat):Int) - 1))=some (dR acc[n]):=by
     rw[show ((n+1:Nat):Int) - 1=(n:Nat) by lia]
     exact h1 (by exact jc ‹_› ‹_›) (by rw[List.getElem?_map,cR];rfl)
    have bj:=bp acc[n] (List.getElem_mem _)
    have ahB:ltAt (gO j cN) x acc n=gO j cN x acc[n]:=by unfold ltAt;rw[cR]
    have z9:hv (gO j cN) x acc (n+1)=if gO j cN x acc[n]=true then hv (gO j cN) x acc n else n+1:=by exact ahB▸rfl
    refine LI H.bL (H.row x aE) ⟨rfl,q4 iA (LI H.bL (H.row _ bj) (YJ (H.key x aE _ bj) (fC (p:=(pf j cN x.2).map ct<(pf j cN acc[n].2).map ct) (fun cK=>?_) fun cK=>?_)))⟩
    ·rw[if_pos (show gO j cN x acc[n]=true from decide_eq_true cK)] at z9
     have:=c9 n (Nat.lt_of_succ_lt_succ ‹_›) (Nat.le_of_lt ‹_›) (by exact z9.symm.trans bc)
     rw[show (n:Int)=((n+1:Nat):Int) - 1 by lia] at this
     exact this
    ·rw[if_neg (by unfold gO;exact(decide_eq_false cK).symm▸Bool.false_ne_true)] at z9
     rw[<- bc,z9] at av;exact av
  ·obtain rfl:n=0:=by lia
   rw[<- bc] at av;exact av
theorem ac3{l:List D}{p:Nat}{d:D}{k:D->List D->Prop}(h:l.length<=10000)(bc:p<=l.length)(av:k .none (l.take p++d::l.drop p)):dd vD l [.int p,d] k:=DB (by
 have e:vD l [.int p,d]=if l.length<=10000/\0<=(p:Int)/\(p:Int)<=l.length then some (.none,l.take (p:Int).toNat++d::l.drop (p:Int).toNat) else none:=rfl
 rw[e,if_pos ⟨h,by exact Int.natCast_nonneg _,by exact Int.ofNat_le.mpr ‹_›⟩,Int.toNat_natCast]) av
@[irreducible] noncomputable def mZ:aU:=fun ds k=>At (Run [84,42] [] (Hf q7 sS) ds k)
theorem ac4:bg B 3 nB mZ:=by unfold mZ;exact .wall (.run Qv (Rl (fun j=>(Wy j).le (by decide)) YH))
theorem K2{α σ:Type}{asg:D->aO->(aO->Prop)->Prop}{dr:List Nat}{cO:bh}{e:α->D}(P:σ->aO)(f:σ->α->σ)(bU:σ->Nat->Prop){k:dM->aO->Prop}:∀(xs:List α) (s:σ),(∀s n,∀a∈xs,bU s (n+1)->bU (f s a) n)->bU s xs.length->
  (∀s n,∀a∈xs,bU s (n+1)->∀(K:aO->Prop) (R:V->aO->Prop),K (P (f s a))->asg (e a) (P s) fun aY=>cO aY fun a8 ρ'=>match a8 with|.cx=>dO (kl dr ρ') (K (gb dr ρ'))|.dv v=>R v ρ')->k .cx (P (xs.foldl f s))->im asg dr cO (xs.map e) (P s) k
 | [],s,Z,bt,cD,av=>av
 | a::xs,s,ow,aN,hs,av=>hs s xs.length a (.head _) aN (fun ρ=>im asg dr cO (xs.map e) ρ k) _ (K2 P f bU xs (f s a) (fun s n b aS=>ow s n b (.tail _ aS)) (ow s _ a (.head _) aN) (fun s n b aS=>hs s n b (.tail _ aS)) av)
theorem DS{j:Nat}{cN:md}{rows:List Row}{k:D->Prop}(H:LsOk j cN rows)(a5:rows.length<=190)(av:k (.list ((nY (gO j cN) rows).map dR))):mZ [.list (rows.map dR),.fn j (zg j cN)] k:=by
 unfold mZ
 refine⟨fun a=>K2 (e:=dR) (fun acc=>FK j cN (.list (rows.map dR)) a acc) (jh (gO j cN)) (fun acc m=>acc.length+m<=190/\∀x∈acc,x∈rows) rows [] (fun acc n x aE h=>?_) ⟨by exact eN ‹_›,fun Z h=>nomatch h⟩ (fun acc n x aE h K R aZ=>?_) av⟩
 ·have x2:=Jt (gO j cN) acc x
  refine⟨by rw[x2.length_eq,List.length_cons];lia,fun y bj=>?_⟩
  cases x2.mem_iff.mp bj with
  | head=>exact aE
  | tail Z bj=>exact h.2 y bj
 ·have aF:(acc.map dR).length=acc.length:=List.length_map ..
  have bc:=Ct (gO j cN) x acc acc.length
  have aiE:(acc.map dR).take (hv (gO j cN) x acc acc.length)++dR x::(acc.map dR).drop (hv (gO j cN) x acc acc.length)=(jh (gO j cN) acc x).map dR:=by
   unfold jh;rw[List.map_append,List.map_cons,List.map_take,List.map_drop]
  refine tU (by lia) ⟨Vj H aE h.2 (by lia) ?_ 200 (acc.map dR).length (by lia) (by lia) (by exact congrArg _ aF)⟩
  refine⟨rfl,ac3 (l:=acc.map dR) (p:=hv (gO j cN) x acc acc.length) (by lia) (by lia) ?_⟩
  exact aiE.symm▸aZ
theorem Vk{K:Nat->kj}{l:List Nat}{x:Nat}(aE:∀y∈l,y<x)(h:l.Pairwise fun a b=>hD K a b=true):(jh (fun a b=>decide (K a<K b)) l x).Pairwise fun a b=>hD K a b=true:=by
 refine bS (Ju (fun a b=>decide (K a<K b)) x l l.length (Nat.le_refl _)) fun s1 s2=>?_
 have bc:=Ct (fun a b=>decide (K a<K b)) x l l.length
 unfold jh
 generalize hv (fun a b=>decide (K a<K b)) x l l.length=p at s1 s2 bc
 have aC:=h
 rw[<- List.take_append_drop p l,List.pairwise_append] at aC
 obtain⟨aw,ai,a3⟩:=aC
 have nl:∀{y},y∈l->decide (K x<K y)=false->hD K y x=true:=fun {y} bj e=>by
  rw[qS]
  rcases CT (K y) (K x) with q|q|q
  ·exact .inl q
  ·exact .inr ⟨q,Nat.le_of_lt (aE y bj)⟩
  ·exact absurd q (of_decide_eq_false e)
 have ht:∀y∈l.take p,hD K y x=true:=fun y bj=>by
  cases p with
  | zero=>simp at bj
  | succ m=>
   have hm:m<l.length:=(‹_›)
   have ak:=nl (List.getElem_mem hm) (s2 m rfl l[m] (List.getElem?_eq_getElem hm))
   rw[List.take_add_one,List.getElem?_eq_getElem hm,List.mem_append] at bj
   rcases bj with bj|bj
   ·have:=(List.pairwise_append.mp (by rw[List.take_add_one,List.getElem?_eq_getElem hm] at aw;exact aw)).2.2 y bj l[m] (by exact List.mem_cons_self)
    exact Jp _ _ _ this ak
   ·have:y=l[m]:=by simpa using bj
    subst this;exact ak
 have hd:∀y∈l.drop p,hD K x y=true:=fun y bj=>by
  refine cQ (List.getElem?_of_mem bj) fun j bL=>?_
  replace bL:=(List.getElem?_drop)▸bL
  have ahC:p+j<l.length:=by
   rcases Nat.lt_or_ge (p+j) l.length with q|q
   ·exact q
   ·replace bL:=(List.getElem?_eq_none q)▸bL;exact ns bL
  exact qS.mpr (.inl (of_decide_eq_true (s1 (p+j) (by exact Nat.le_add_right _ _) ahC y bL)))
 rw[List.pairwise_append,List.pairwise_cons]
 refine⟨aw,⟨hd,ai⟩,fun a bp b aS=>?_⟩
 cases aS with
 | head=>exact ht a bp
 | tail Z aS=>exact a3 a bp b aS
theorem Jv{K:Nat->kj}:∀(ps acc:List Nat),(∀x∈ps,∀y∈acc,y<x)->ps.Pairwise (·< ·)->acc.Pairwise (fun a b=>hD K a b=true)->
  (ps.foldl (jh fun a b=>decide (K a<K b)) acc).Pairwise (fun a b=>hD K a b=true)/\(ps.foldl (jh fun a b=>decide (K a<K b)) acc).Perm (acc++ps)
 | [],acc,Z,bt,h=>⟨h,by rw[List.append_nil];exact .refl _⟩
 | x::ps,acc,aE,bc,h=>by
  rw[List.pairwise_cons] at bc
  have x2:=Jt (fun a b=>decide (K a<K b)) acc x
  refine bS (Jv ps (jh (fun a b=>decide (K a<K b)) acc x) (fun z a5 y bj=>by
   cases x2.mem_iff.mp bj with
   | head=>exact bc.1 z a5
   | tail Z bj=>exact aE z (.tail _ a5) y bj) bc.2 (Vk (aE x (.head _)) h)) fun x1 Gn=>?_
  exact⟨x1,Gn.trans ((x2.append_right ps).trans List.perm_middle.symm)⟩
theorem Vl{K:Nat->kj}{n:Nat}{o:List Nat}(h:Ord K n [o]):nY (fun a b=>decide (K a<K b)) (List.range n)=o:=by
 refine bS (Jv (K:=K) (List.range n) [] (fun Z Z Z bj=>nomatch bj) List.pairwise_lt_range .nil) fun oG xT=>?_
 have a:=h.all
 rw[List.flatten_cons,List.flatten_nil,List.append_nil] at a
 exact List.Perm.eq_of_pairwise (fun a b Z Z=>Ve) oG (h.each o (.head _)) (xT.trans a.symm)
end
section
variable {w:World} {B:bC w}
section
variable {n:Nat} {env:Env} {g:G} {ρ:aO}
noncomputable abbrev rX:Str:="z"
structure OT(names dh:List Str):Prop where
 a5:names.length<=1000
 aS:dh.length<=100
 one:∀b∈dh,names.countP (·==b)=1
 no:names.countP (·==rX)=0
noncomputable def aiF:List D->Prop:=fun ds=>∃(cols:List D) (names:List Str) (gT:D) (dh:List Str),ds=[kb cols (names.map .str) gT,cq (dh++[rX])]/\OT names dh
noncomputable abbrev OU:db:=bl (iF (ag 61) 0 (aj (ag 60) az) (ft oT)) (au (.int 1)) (a6 gf)
noncomputable def LJ:bh:=ay (bF OU (ay pq aJ) aJ) (ay (dG (dS 76 (aj (iF (ag 61) 0 (aj (ag 60) az) (ft nQ)) az) (dd d9))) aJ)
inductive FL(names:List Str):aO->Prop
 | mk (a:Addr) (acc:List D) (y z:V):FL names [(60,.aX (.str rX)),(76,.mt a (.list acc)),(61,.aX (cq names)),(7,y),(17,z)]
theorem K3{names:List Str}{a:Addr}{y z:V}(a5:names.length<=1000):∀(dh:List Str) (acc:List D),acc.length+dh.length<=100->(∀b∈dh,names.countP (·==b)=1)->
  zs 60 [60] LJ (FL names) ((dh++[rX]).map .str) [(76,.mt a (.list acc)),(61,.aX (cq names)),(7,y),(17,z)]
 | [],acc,Z,bt=>⟨rfl,.inl (.mk a acc y z)⟩
 | b::dh,acc,aF,bb=>by
  rw[List.length_cons] at aF
  have aw:oT (cq names) [.str b]=some (.int 1):=B2.trans (by rw[bb b (.head _)];rfl)
  have FD:b∈names:=by
   refine aW (List.countP_pos_iff.mp (by have:=bb b (.head _);lia:0<names.countP (·==b))) fun x aE e=>?_
   have:x=b:=by simpa using e
   exact this▸aE
  have ai:nQ (cq names) [.str b]=some (.int (names.idxOf b:Nat)):=(B3 (show names.length<=10000 by exact bO ‹_›)).trans (by rw[yc FD];rfl)
  refine⟨rfl,.inr (nW aw (nW ai (ap (by lia) ?_)))⟩
  exact K3 a5 dh (acc++[.int (names.idxOf b:Nat)]) (by rw[List.length_append,List.length_singleton];lia) fun x aE=>bb x (.tail _ aE)
theorem K4{sc:List (Str×NameKind)}(ok:cS sc env):env.scope.kind≠.module:=by rw[ok.fn];decide
theorem TW:mb B 6 oP aiF:=.of (n:=5) H8 fun ds cv=>by
 refine lZ cv fun cols names gT dh e h=>?_
 subst e
 refine⟨rfl,fun env g ok=>.inl (KH (W:=bM 61 (aT rl (aj (ag 17) az))) ok (L0 (Lg x5 (DL.le (by decide)) rfl (ej (cZ rfl rfl) fm) rfl rfl) rfl rfl) (sP (by have:=h.a5;exact bO ‹_›) ⟨rfl,fun g=>KH (W:=dV 76 (eH az)) ok (yN (yP fm) rfl rfl) fun a=>⟨rfl,fun g=>V2 (X9 (x:=60) (dr:=[60]) (W:=ag 7) (cO:=LJ) (X:=FL names) ok (cZ rfl rfl) (fI (o5 (nU (vR (cZ rfl rfl) (ej (cZ rfl rfl) fm) Ch) e8 D5) (fI adE gp) gp) (fI (D0 (Dj rfl rfl (ej (vR (cZ rfl rfl) (ej (cZ rfl rfl) fm) KB) fm) BO)) gp)) rfl rfl (K4 ok) (fun ρ g m=>?_) ⟨_,rfl,K3 h.a5 dh [] (by rw[List.length_nil];have:=h.aS;exact eN ‹_›) h.one⟩)⟩⟩))⟩
 have aw:oT (cq names) [.str rX]=some (.int 0):=B2.trans (by rw[h.no];rfl)
 cases m with
 | mk a acc y z=>exact KG (abM (T:=OU) ok (nU (vR (cZ rfl rfl) (ej (cZ rfl rfl) fm) Ch) e8 D5) (nW aw ⟨rfl,fun g=>KG (x_raise ok rfl)⟩))
noncomputable def Aa:List D->Prop:=fun ds=>∃(cols:List D) (names:List Str) (gT:D) (dh:List Str) (y:D) (ax bH:Bool),ds=[kb cols (names.map .str) gT,y,cq (dh++[rX]),.bool ax,.bool bH,.list [.str ".x",.str ".y"]]/\OT names dh
theorem Rr:mb B 7 ly Aa:=.of (n:=6) GJ fun ds cv=>by
 refine NC cv fun cols names gT dh y ax bH e h=>?_
 subst e
 exact⟨rfl,fun env g ok=>.inr (V4 (Yb (V3 (cj:=aj (ag 110) (aj (ag 7) az)) ok (K4 ok) Bo TW rfl (ej (cZ rfl rfl) (ej (cZ rfl rfl) fm)) rfl rfl ⟨cols,names,gT,dh,rfl,h⟩)))⟩
end
end
section
variable {w:World} {B:bC w}
@[irreducible] noncomputable def Nb:bG:=(eList (aj (ak (kT (fun ρ k=>(eList (aj (au (.str "k")) (aj (au (.str "l")) az))) ρ fun a aY=>dO (!ju a) (k a aY)) (ag 109)) (eList (aj (au (.str "a")) az)) (f2 c7)) (aj (ak (kT (fun ρ k=>(eList (aj (au (.str "k")) (aj (au (.str "l")) az))) ρ fun a aY=>dO (!ju a) (k a aY)) (ag 109)) (dK (dy (ag 86)) (eList (aj (au (.str "a")) az)) (eList (aj (au (.str "b")) az))) (f2 c7)) az)))
@[irreducible] noncomputable def FM:bG:=(kT (fun ρ k=>(eList (aj (au (.str "k")) (aj (au (.str "l")) az))) ρ fun a aY=>dO (!ju a) (k a aY)) (ag 109))
noncomputable def OV:bh:=ay (dF 92 [92] (aT cF (aj (au (.int 2)) az)) (ay (dG (sA 93 (ag 92) (gG 33 q6 (aj (ak (ag 44) (ag 92) (f2 item)) (aj (ak (ag 100) (ag 92) (f2 item)) az))))) aJ)) (ay (dG (dS 24 (aj (ak (ak (ag 44) (au (.int 0)) (f2 item)) (au (.str "factor")) (d7 (a6 ck))) az) (dd d9))) aJ)
noncomputable def Ab:bh:=ay (bM 44 (ak (eList (aj (dN (aj (au (.str "integer")) (aj (au (.str "integer")) az))) (aj (dN (aj (au (.str "character")) (aj (au (.str "character")) az))) (aj (dN (aj (au (.str "factor")) (aj (au (.str "factor")) az))) (aj (dN (aj (au (.str "integer")) (aj (au (.str "double")) az))) az))))) (gG 33 i7 (aj (au (.int 4)) az)) (f2 item))) OV
noncomputable def Nc:bh:=ay (dV 82 (eH az)) (ay (dF 92 [92] (aT cF (aj (au (.int 2)) az)) (ay (bF (dy (ak (ag 24) (ag 4) (f2 item))) (ay (lQ 82 (cE 65 [] (aD (ak (aD (ak (ak (ag 93) (ag 92) (f2 item)) (ag 4) (f2 item)) gF) (au (.str "levels")) (f2 item)) dD) (o7 true (ag 65) 82) (cy (ag 65)))) aJ) aJ) aJ)) (ay (dG (dS 48 (aj (ag 82) az) (dd d9))) aJ))
@[irreducible] noncomputable def FN:bh:=ay (bF (ew (dy (ak (ag 39) (au (.int 0)) (f2 item))) (ew (dy (ak (ag 39) (au (.int 1)) (f2 item))) h3)) (ay (lW 24 (lW 48 (lW 109 (mB 84 84 0 [24,48,109] mZ)))) aJ) (ay (bF (bl (ag 109) (au (.int 1)) (a6 ck)) (ay (mB 84 84 1 [] mZ) aJ) (ay (mB 84 84 2 [] mZ) aJ)) aJ)) aJ
@[irreducible] noncomputable def tZ:bh:=ay (dV 48 (eH az)) (ay (dF 4 [4,82] (aT cF (aj (ag 109) az)) Nc) FN)
@[irreducible] noncomputable def Ew:bh:=ay (bF (dy (ak (ag 39) (au (.int 1)) (f2 item))) (ay (lQ 84 (cE 105 [] (aT cF (aj (ak (ag 100) (au (.int 1)) (f2 item)) az)) (bl (ak (ak (ag 42) (au (.int 1)) (f2 item)) (ag 105) (f2 item)) (ak (ag 42) (au (.int 0)) (f2 item)) (a6 ip)) (cy (dN (aj (au .none) (aj (ag 105) (aj (ak (ak (ag 42) (au (.int 1)) (f2 item)) (ag 105) (f2 item)) az))))))) aJ) aJ) tZ
@[irreducible] noncomputable def Ex:bh:=ay (bF (dy (ak (ag 39) (au (.int 0)) (f2 item))) (ay (lQ 84 (cE 65 [] (aT cF (aj (ak (ag 100) (au (.int 0)) (f2 item)) az)) (bl (ak (ak (ag 42) (au (.int 0)) (f2 item)) (ag 65) (f2 item)) (ak (ag 42) (au (.int 1)) (f2 item)) (a6 ip)) (cy (dN (aj (ag 65) (aj (au .none) (aj (ak (ak (ag 42) (au (.int 0)) (f2 item)) (ag 65) (f2 item)) az))))))) aJ) aJ) Ew
@[irreducible] noncomputable def t2:bh:=ay (bF (bl (aD (ak (aD (ag 104) gF) (au (.str "names")) (f2 item)) dD) (ak (ag 7) (dK (dy (ag 86)) (eList (aj (au (.str "a.x")) (aj (au (.str "a.y")) az))) (eList (aj (au (.str "a")) (aj (au (.str "b")) az)))) (f2 c7)) (a6 gf)) (ay (bJ (au (.bool false))) aJ) aJ) (ay (bF (ew (bl (aD (ak (aD (ag 104) gF) (au (.str "row.names")) (f2 item)) dD) (aT (a8 hp) (aj (aT cF (aj (au (.int 1)) (aj (ak (aT (a8 c8) (aj (ag 84) az)) (au (.int 1)) (f2 c7)) az))) az)) (a6 gf)) (ew (bl (aT (a8 c8) (aj (aD (ag 104) dD) az)) (ak (ag 109) (au (.int 2)) (f2 c7)) (a6 gf)) h3)) (ay (bJ (au (.bool false))) aJ) aJ) (ay (dF 4 [4] (aT cF (aj (ag 109) az)) (ay (bF (bl (cE 35 [] (aT pd (aj (ak (aD (ag 104) dD) (ag 4) (f2 item)) az)) cg (cy (aT n7 (aj (ag 35) az)))) (cE 82 [] (ag 84) cg (cy (ak (ak (ag 82) (au (.int 2)) (f2 item)) (ag 4) (f2 item)))) (a6 gf)) (ay (bJ (au (.bool false))) aJ) aJ) aJ)) (ay (bF (bl (aD (ak (aD (ag 104) dD) (ag 109) (f2 item)) dD) (cE 82 [] (ag 84) cg (cy (dK (bl (ak (ag 82) (au (.int 0)) (f2 item)) (au .none) (a6 ec)) (au .none) (ak (au (.int 10)) (ak (ag 82) (au (.int 0)) (f2 item)) (f2 c7))))) (a6 gf)) (ay (bJ (au (.bool false))) aJ) aJ) (ay (bJ (ak (aD (ak (aD (ag 104) dD) (ak (ag 109) (au (.int 1)) (f2 c7)) (f2 item)) dD) (cE 82 [] (ag 84) cg (cy (dK (bl (ak (ag 82) (au (.int 1)) (f2 item)) (au .none) (a6 ec)) (au .none) (ak (au (.int 20)) (ak (ag 82) (au (.int 1)) (f2 item)) (f2 c7))))) (d7 (a6 ck)))) aJ))))
@[irreducible] noncomputable def t4:bh:=ay (bF (bl (ag 109) (au (.int 0)) (a6 ck)) (ay (mH 84 105 [65] (aT cF (aj (ak (ag 100) (au (.int 1)) (f2 item)) az)) cg (o6 65 (aT cF (aj (ak (ag 100) (au (.int 0)) (f2 item)) az)) cg (cy (dN (aj (ag 65) (aj (ag 105) (aj (dN az) az))))))) aJ) (ay (mH 84 65 [105] (aT cF (aj (ak (ag 100) (au (.int 0)) (f2 item)) az)) cg (o6 105 (aT cF (aj (ak (ag 100) (au (.int 1)) (f2 item)) az)) (bl (ak (ak (ag 42) (au (.int 0)) (f2 item)) (ag 65) (f2 item)) (ak (ak (ag 42) (au (.int 1)) (f2 item)) (ag 105) (f2 item)) (a6 ck)) (cy (dN (aj (ag 65) (aj (ag 105) (aj (ak (ak (ag 42) (au (.int 0)) (f2 item)) (ag 65) (f2 item)) az))))))) Ex)) t2
@[irreducible] noncomputable def Ac:bh:=ay (bM 102 (cE 92 [] (aT cF (aj (au (.int 2)) az)) cg (cy (cE 4 [] (aT cF (aj (ag 109) az)) cg (cy (cE 35 [] (aT pd (aj (ak (ak (ag 93) (ag 92) (f2 item)) (ag 4) (f2 item)) az)) cg (cy (aT n7 (aj (ag 35) az))))))))) (ay (bM 42 (cE 92 [] (aT cF (aj (au (.int 2)) az)) cg (cy (cE 82 [] (aT cF (aj (ak (ag 100) (ag 92) (f2 item)) az)) cg (cy (aT (a8 sy) (aj (cE 4 [] (aT cF (aj (ag 109) az)) cg (cy (ak (ak (ak (ag 102) (ag 92) (f2 item)) (ag 4) (f2 item)) (ag 82) (f2 item)))) az))))))) t4)
@[irreducible] noncomputable def Ad:bh:=ay (bM 104 (aT mY (aj (ak (ag 32) (au (.int 0)) (f2 item)) (aj (ak (ag 32) (au (.int 1)) (f2 item)) (aj (ag 7) (aj (ak (ag 39) (au (.int 0)) (f2 item)) (aj (ak (ag 39) (au (.int 1)) (f2 item)) (aj (eList (aj (au (.str ".x")) (aj (au (.str ".y")) az))) az)))))))) Ac
@[irreducible] noncomputable def zD:bh:=ay (bM 32 (cE 92 [] (aT cF (aj (au (.int 2)) az)) cg (cy (aT rm (aj (ak (ag 93) (ag 92) (f2 item)) (aj (ak (ag 61) (ag 92) (f2 item)) (aj (hC (aj (au (.str "integer")) (aj (aT (a8 hp) (aj (aT cF (aj (au (.int 1)) (aj (ak (ak (ag 100) (ag 92) (f2 item)) (au (.int 1)) (f2 c7)) az))) az)) az))) az))))))) (ay (bM 39 (eList (aj (ak (gG 33 i7 (aj (au (.int 2)) az)) (au (.int 1)) (d7 (a6 ck))) (aj (ak (gG 33 i7 (aj (au (.int 2)) az)) (au (.int 1)) (d7 (a6 ck))) az)))) (ay (bM 7 FM) (ay (bF (bl (gG 33 i7 (aj (au (.int 12)) az)) (au (.int 11)) (a6 ck)) (ay (sN v7 Aa) aJ) aJ) Ad)))
@[irreducible] noncomputable def xv:bh:=ay (bM 86 (ak (gG 33 i7 (aj (au (.int 2)) az)) (au (.int 0)) (d7 (a6 ck)))) (ay (bM 61 Nb) (ay (dF 92 [92] (aT cF (aj (au (.int 2)) az)) (ay (dG (sA 93 (ag 92) (hC (aj (au (.str "integer")) (aj (cE 82 [] (aT cF (aj (ak (ag 100) (ag 92) (f2 item)) az)) cg (cy (ak (ak (au (.int 10)) (ak (ag 92) (au (.int 1)) (f2 c7)) (f2 fU)) (ag 82) (f2 c7)))) az))))) aJ)) zD))
@[irreducible] noncomputable def FO:bh:=ay (dV 33 (eH (aj (ag 9) (aj (au (.int 0)) (aj (au (.int 0)) (aj (ak (ak (aT (a8 sX) (aj (ag 9) az)) (au (.int 100003)) (f2 jE)) (au (.int 7)) (f2 fU)) az)))))) (ay (bM 100 (eList (aj (gG 33 i7 (aj (au (.int 5)) az)) (aj (gG 33 i7 (aj (au (.int 5)) az)) az)))) (ay (bM 109 (ak (eList (aj (au (.int 1)) (aj (au (.int 1)) (aj (au (.int 2)) (aj (au (.int 0)) az))))) (gG 33 i7 (aj (au (.int 4)) az)) (f2 item))) (ay (dV 93 (vU 2)) (ay (dV 24 (eH az)) (ay (dF 4 [4,44] (aT cF (aj (ag 109) az)) Ab) xv)))))
theorem ac5:Cl (sN v7 Aa) q6 rm i7 n7 mZ pd mY=FO:=by kernel_rfl
structure hY(m n:Nat)(q:Key):Prop where
 bL:lw q.1.kd q.2.1.kd q.2.2
 aE:q.1.Ok 10
 bj:q.2.1.Ok 10
 j4:q.1.ae.length=m
 nv:q.2.1.ae.length=n
 aiG:∀a,q.1.kd=.c1 a->a∈kg
 aiH:∀a,q.2.1.kd=.c1 a->a∈kg
structure iy(m n:Nat)(ks:List Key):Prop where
 hm:m<=4
 hn:n<=4
 len:ks.length<=2
 all:∀q∈ks,hY m n q
noncomputable def hZ(ks:List Key):List Bool:=ks.map fun q=>q.1.kd.fT
noncomputable abbrev oo(cells:List Int)(fx hJ fy:Addr)(m n w:Nat)(l xs ys fs:List D):aO:=[(24,.mt fy (.list fs)),(93,.mt hJ (.lists [xs,ys])),(109,.aX (.int w)),(100,.aX (.list [.int m,.int n])),(33,.mt fx (.list l)),(9,.aX (.list (cells.map .int))),(90,.mt 796 .tab)]
inductive rG:nw->nw->Prop
 | ii:rG .int .int|rV:rG .chr .chr|pO:rG .c1 .c1|id:rG .int .dbl
theorem YK{hg i6:nw}(h:rG hg i6){a b:eQ}(bp:tY hg a)(aS:tY i6 b):∃z,lw a b z:=by
 cases h <;> cases a <;> cases b <;> first|exact bp.elim|exact aS.elim|exact⟨_,.ii⟩|exact⟨_,.rV⟩|exact⟨_,.id⟩|exact⟨_,.pO _ _⟩
theorem ac6{hg:nw}{a:eQ}(bp:tY hg a):decide (pB hg=("factor":Str))=a.fT:=by
 cases hg <;> cases a <;> first|exact bp.elim|kernel_rfl
theorem K5{hg:nw}{a:eQ}(bp:tY hg a)(l:List Str)(e:a=.c1 l):l∈kg:=by
 subst e;cases hg <;> first|exact bp.elim|exact bp
theorem YL{cells:List Int}{fx hJ fy:Addr}{m n w:Nat}{l xs ys fs:List D}{d4:D}{hg i6:nw}{k:dM->aO->Prop}(aF:h5 l)(av:rG hg i6)(hm:m<=4)(hn:n<=4)(aw:xs.length<=10)(ai:ys.length<=10)(a3:fs.length<=10)(aZ:∀q l',hY m n q->h5 l'->k .cx ((44,.aX (.tup [.str (pB hg),.str (pB i6)]))::(4,.aX d4)::oo cells fx hJ fy m n w l' (xs++[ce q.1]) (ys++[ce q.2.1]) (fs++[.bool q.1.kd.fT]))):
  OV ((44,.aX (.tup [.str (pB hg),.str (pB i6)]))::(4,.aX d4)::oo cells fx hJ fy m n w l xs ys fs) k:=by
 refine dI (d0 (n:=2) (by decide)) ⟨rfl,by decide,by decide,rfl,rfl,LD aF (by exact bO ‹_›) fun x l' cY kH j4 eE=>⟨rfl,by exact bO ‹_›,?_⟩⟩
 refine EJ rfl (by decide) (by decide) rfl rfl (LD eE (by exact bO ‹_›) fun y rF c4 ur nv wR=>⟨rfl,by exact bO ‹_›,?_⟩)
 refine cQ (YK av cY c4) fun z a5=>?_
 exact ap (l:=fs) (d:=.bool (decide (pB hg=("factor":Str)))) (by exact bO ‹_›) (by exact(ac6 cY).symm▸(aZ (x,y,z) rF ⟨a5,kH,ur,j4,nv,K5 cY,K5 c4⟩ wR))
theorem Kg{cells:List Int}{fx hJ fy:Addr}{m n w:Nat}{k:dM->aO->Prop}(hm:m<=4)(hn:n<=4)(hw:w<=2)(av:∀ks l,h5 l->iy m n ks->ks.length=w->k .cx (oo cells fx hJ fy m n w l ((cY ks).map ce) ((c4 ks).map ce) ((hZ ks).map .bool))):
  ∀(ds:List D) (ks:List Key) (l:List D),h5 l->ks.length+ds.length=w->(∀q∈ks,hY m n q)->im (zl 4) [4,44] Ab ds (oo cells fx hJ fy m n w l ((cY ks).map ce) ((c4 ks).map ce) ((hZ ks).map .bool)) k
 | [],ks,l,aF,a5,bp=>av ks l aF ⟨hm,hn,by skip;exact g0 ‹_› ‹_›,bp⟩ (by simpa using a5)
 | d::ds,ks,l,aF,a5,bp=>by
  replace a5:=List.length_cons▸a5
  have dH:((cY ks).map ce).length<=10:=by unfold cY;rw[List.length_map,List.length_map];lia
  have bt:((c4 ks).map ce).length<=10:=by unfold c4;rw[List.length_map,List.length_map];lia
  have cD:((hZ ks).map D.bool).length<=10:=by unfold hZ;rw[List.length_map,List.length_map];lia
  have turn:=fun(hg i6:nw) (h:rG hg i6) (l':List D) (eE:h5 l')=>YL (cells:=cells) (fx:=fx) (hJ:=hJ) (fy:=fy) (w:=w) (d4:=d) (k:=fun a8 ρ'=>match a8 with|.cx=>dO (kl [4,44] ρ') (im (zl 4) [4,44] Ab ds (gb [4,44] ρ') k)|.dv v=>k (.dv v) ρ') eE h hm hn dH bt cD (fun q rF aL wR=>by
   have:=Kg hm hn hw av ds (ks++[q]) rF wR (by rw[List.length_append,List.length_singleton];lia) fun p bc=>by
    rcases List.mem_append.mp bc with bc|bc
    ·exact bp p bc
    ·cases List.mem_singleton.mp bc;exact aL
   unfold cY c4 hZ at this
   rw[List.map_append,List.map_append,List.map_append,List.map_append,List.map_append,List.map_append] at this
   exact this)
  refine⟨rfl,mE aF (by decide) (by decide) fun r l' aA eE=>?_⟩
  rcases(show r=0∨r=1∨r=2∨r=3 from by lia) with rfl|rfl|rfl|rfl
  ·exact turn _ _ .ii l' eE
  ·exact turn _ _ .rV l' eE
  ·exact turn _ _ .pO l' eE
  ·exact turn _ _ .id l' eE
theorem ac7{s:List Int}{k:dM->aO->Prop}(hs:s.length<=63)(av:∀fx hJ fy m n ks l,h5 l->iy m n ks->xv (oo s fx hJ fy m n ks.length l ((cY ks).map ce) ((c4 ks).map ce) ((hZ ks).map .bool)) k):FO [(9,.aX (.list (s.map .int))),(90,.mt 796 .tab)] k:=by
 have oG:sX [.list (s.map .int)]=some (.int s.sum):=by
  show (intsOf (s.map .int)).map _=_
  rw[Bu];rfl
 have uo:∀a:Int,fU (.int a) (.int 7)=some (.int (a * 7)):=fun a=>if_pos (lF.mpr (by decide))
 have fin:∀fx m n w l,m<=4->n<=4->w<=2->h5 l->(ay (dV 93 (vU 2)) (ay (dV 24 (eH az)) (ay (dF 4 [4,44] (aT cF (aj (ag 109) az)) Ab) xv))) [(109,.aX (.int (w:Nat))),(100,.aX (.list [.int (m:Nat),.int (n:Nat)])),(33,.mt fx (.list l)),(9,.aX (.list (s.map .int))),(90,.mt 796 .tab)] k:=by
  intro fx m n w l hm hn hw aF hJ fy
  refine dI (d0 (n:=w) (by exact bO ‹_›)) ?_
  exact Kg hm hn hw (fun ks l aF h e=>by subst e;exact av fx hJ fy m n ks l aF h) (eR 0 w 1) [] l aF (by rw[hk,List.length_map,List.length_range,List.length_nil];exact Nat.add_comm _ _) fun Z h=>nomatch h
 unfold FO
 refine dA oG (b6 (uo _) fun fx=>⟨rfl,mE ⟨s,0,0,_,rfl,Nat.zero_le _,hs⟩ (by decide) (by decide) fun m kz hm xd=>⟨rfl,mE xd (by decide) (by decide) fun n iP hn xf=>⟨rfl,mE xf (by decide) (by decide) fun r jm aA xx=>?_⟩⟩⟩)
 rcases(show r=0∨r=1∨r=2∨r=3 from by lia) with rfl|rfl|rfl|rfl
 ·exact fin fx m n 1 jm (by lia) (by lia) (by decide) xx
 ·exact fin fx m n 1 jm (by lia) (by lia) (by decide) xx
 ·exact fin fx m n 2 jm (by lia) (by lia) (by decide) xx
 ·exact fin fx m n 0 jm (by lia) (by lia) (by decide) xx
end
section
variable {w:World} {B:bC w}
noncomputable def em(b m:Nat):cG:=⟨.int,(List.range m).map fun i:Nat=>.i ((b:Int)+(i:Int))⟩
theorem MB(b m:Nat):ce (em b m)=.vec "integer" (.list ([]++(List.range m).map fun i:Nat=>.int ((b:Int)+i))) .none:=by
 unfold ce em;rw[List.map_map];rfl
noncomputable def hU(same:Bool):Str:=if same then "a" else "b"
noncomputable abbrev tk(w:Nat)(same:Bool):D:=.list [cq (dm w++[hU true]),cq (dm w++[hU same])]
theorem YM{w:Nat}{same:Bool}{ρ:aO}{cells:List Int}{fx hJ fy:Addr}{m n:Nat}{l xs ys fs:List D}{K:D->aO->Prop}(hw:w<=2)(e:ρ=(86,.aX (.bool same))::oo cells fx hJ fy m n w l xs ys fs)(aZ:K (tk w same) ρ):
  Nb ρ K:=by
 subst e
 match w,hw with
 | 0,Z=>cases same <;> exact Eq.mpr (by kernel_rfl) aZ
 | 1,Z=>cases same <;> exact Eq.mpr (by kernel_rfl) aZ
 | 2,Z=>cases same <;> exact Eq.mpr (by kernel_rfl) aZ
theorem ac8{w:Nat}{ρ:aO}{K:D->aO->Prop}(hw:w<=2)(e:bT ρ 109=some (.aX (.int w)))(aZ:K (cq (dm w)) ρ):FM ρ K:=by
 unfold FM kT ag eList aj az au
 dsimp only
 refine e.symm▸?_
 match w,hw with
 | 0,Z=>exact aZ
 | 1,Z=>exact aZ
 | 2,Z=>exact aZ
theorem MC:fU (.int 10) (.int (0+1))=some (.int (10:Nat))/\fU (.int 10) (.int (1+1))=some (.int (20:Nat)):=⟨if_pos (lF.mpr (by decide)),if_pos (lF.mpr (by decide))⟩
theorem YN{cells:List Int}{fx hJ fy:Addr}{m n:Nat}{ks:List Key}{l:List D}{k:dM->aO->Prop}(aF:h5 l)(ho:iy m n ks)(av:∀same l,h5 l->zD ((61,.aX (tk ks.length same))::(86,.aX (.bool same))::oo cells fx hJ fy m n ks.length l (h6 (cY ks) (em 10 m)) (h6 (c4 ks) (em 20 n)) ((hZ ks).map .bool)) k):
  xv (oo cells fx hJ fy m n ks.length l ((cY ks).map ce) ((c4 ks).map ce) ((hZ ks).map .bool)) k:=by
 obtain⟨hm,hn,hlen,aeL⟩:=ho
 have dH:((cY ks).map ce).length<=10:=by unfold cY;rw[List.length_map,List.length_map];exact bO ‹_›
 have bt:((c4 ks).map ce).length<=10:=by unfold c4;rw[List.length_map,List.length_map];exact bO ‹_›
 unfold xv
 refine⟨rfl,mE aF (by decide) (by decide) fun r l' aA eE=>?_⟩
 have ez:=av (decide ((r:Int)=0)) l' eE
 unfold h6 at ez
 rw[MB,MB] at ez
 refine YM (same:=decide ((r:Int)=0)) hlen rfl (dI (d0 (n:=2) (by decide)) ⟨rfl,by decide,by decide,rfl,dI (d0 (n:=m) (by exact bO ‹_›)) ?_⟩)
 show fJ _ _ _ (eR 0 m 1) _ _ _
 rw[hk]
 refine comp_map (e:=fun i:Nat=>D.int (i:Int)) (g:=fun i:Nat=>.int (((10:Nat):Int)+i)) _ [] (by rw[List.length_nil,List.length_range];exact eN ‹_›) (fun i Z K aZ=>b6 MC.1 aZ) ⟨rfl,by exact bO ‹_›,EI rfl (by decide) (by decide) rfl (dI (d0 (n:=n) (by exact bO ‹_›)) ?_)⟩
 show fJ _ _ _ (eR 0 n 1) _ _ _
 rw[hk]
 exact comp_map (e:=fun i:Nat=>D.int (i:Int)) (g:=fun i:Nat=>.int (((20:Nat):Int)+i)) _ [] (by rw[List.length_nil,List.length_range];exact eN ‹_›) (fun i Z K aZ=>b6 MC.2 aZ) ⟨rfl,by exact bO ‹_›,ez⟩
noncomputable abbrev Ae(m:Nat)(ks:List Key):D:=kY (cY ks) (em 10 m) ks.length (hU true) m
noncomputable abbrev xA(n:Nat)(ks:List Key)(same:Bool):D:=kY (c4 ks) (em 20 n) ks.length (hU same) n
noncomputable abbrev t5(f:V)(m n:Nat)(ks:List Key)(same ax bH:Bool)(h c:V):aO:=[(7,.aX (cq (dm ks.length))),(39,.aX (.list [.bool ax,.bool bH])),(32,.aX (.list [Ae m ks,xA n ks same])),(61,.aX (tk ks.length same)),(86,.aX (.bool same)),(24,f),(93,.aX (.list [.list (h6 (cY ks) (em 10 m)),.list (h6 (c4 ks) (em 20 n))])),(109,.aX (.int ks.length)),(100,.aX (.list [.int m,.int n])),(33,h),(9,c),(90,.mt 796 .tab)]
theorem ac9{ρ:aO}(h:(ρ.all fun p=>!p.2.eV)=true):∀x V,bT ρ x=some V->V.eV=false:=by
 induction ρ with
 | nil=>intro x V e;exact ns e
 | cons p r c9=>
  obtain⟨y,U⟩:=p
  rw[List.all_cons,Bool.and_eq_true] at h
  intro x V e
  unfold bT at e
  by_cases q:x=y
  ·replace e:=(if_pos q)▸e;obtain rfl:=Option.some.inj e;simpa using h.1
  ·rw[if_neg q] at e;exact c9 h.2 x V e
theorem Kh:∀w,w<=2->(∀b∈dm w,(dm w++[hU true]).countP (·==b)=1)/\(dm w++[hU true]).countP (·==rX)=0:=by
 intro w hw
 match w,hw with
 | 0,Z=>decide +kernel
 | 1,Z=>decide +kernel
 | 2,Z=>decide +kernel
theorem YQ{cells:List Int}{fx hJ fy:Addr}{m n:Nat}{ks:List Key}{same:Bool}{l:List D}{k:dM->aO->Prop}(aF:h5 l)(ho:iy m n ks)(av:∀ax bH h c,h.eV=false->c.eV=false->Ad (t5 (.mt fy (.list ((hZ ks).map .bool))) m n ks same ax bH h c) k)(ht:k (.dv (.aX (.bool true))) [(90,.mt 796 .tab)]):
  zD ((61,.aX (tk ks.length same))::(86,.aX (.bool same))::oo cells fx hJ fy m n ks.length l (h6 (cY ks) (em 10 m)) (h6 (c4 ks) (em 20 n)) ((hZ ks).map .bool)) k:=by
 obtain⟨hm,hn,hlen,aeL⟩:=ho
 have iT:=vK hlen
 have dH:((dm ks.length++[hU true]).map D.str).length<=10000:=by rw[List.length_map,List.length_append,iT,List.length_singleton];exact hO ‹_›
 have bt:((dm ks.length++[hU same]).map D.str).length<=10000:=by rw[List.length_map,List.length_append,iT,List.length_singleton];exact hO ‹_›
 unfold zD
 refine dI (d0 (n:=2) (by decide)) (dI (zy (n:=m) (by exact bO ‹_›)) (dA (yi (by exact bO ‹_›)) (My dH (dI (zy (n:=n) (by exact bO ‹_›)) (dA (yi (by exact bO ‹_›)) (My bt ?_))))))
 refine⟨rfl,mE aF (by decide) (by decide) fun nq kz ajT xd=>⟨rfl,mE xd (by decide) (by decide) fun oA iP ajU xf=>ac8 (w:=ks.length) hlen (by rfl) ⟨rfl,mE xf (by decide) (by decide) fun pP jm ajV xx=>?_⟩⟩⟩
 refine fC (p:=(pP:Int)=11) (fun q=>b6 (sD (ys:=["z"]) (by rw[iT,List.length_singleton];exact hO ‹_›)) ⟨afE (h6 (cY ks) (em 10 m)) (dm ks.length++[hU true]) (wc m) (dm ks.length) (xA n ks same) (decide ((nq:Int)=1)) (decide ((oA:Int)=1)) rfl ⟨by rw[List.length_append,iT,List.length_singleton];exact hO ‹_›,by rw[iT];exact bO ‹_›,(Kh _ hlen).1,(Kh _ hlen).2⟩,ac9 (by rfl),rfl,ht⟩) fun q=>?_
 exact av (decide ((nq:Int)=1)) (decide ((oA:Int)=1)) (.mt fx (.list jm)) (.aX (.list (cells.map .int))) rfl rfl
end
section
variable {w:World} {B:bC w}
noncomputable def gP(q:Key):c3->bY|(some i,_)=>q.1.ae.getD i .na|(none,some j)=>q.2.1.ae.getD j .na|(none,none)=>.na
noncomputable def jS(ks:List Key)(p:c3):List bY:=ks.map fun q=>gP q p
theorem nZ{m n:Nat}{q:Key}{P:List c3}(h:hY m n q)(dj:∀p∈P,gy m n p):(fD P q).ae=P.map (gP q):=by
 unfold fD Eo cG.pick
 rw[List.map_map]
 refine List.map_congr_left fun p bc=>?_
 have ho:=dj p bc
 show (q.1.ae++q.2.1.ae).getD (tf q.1.ae.length p) .na=gP q p
 have j4:=h.j4
 obtain⟨_|i,aK⟩:=p
 ·cases aK with
  | none=>exact ho.elim
  | some j=>
   show (q.1.ae++q.2.1.ae).getD (q.1.ae.length+j) .na=q.2.1.ae.getD j .na
   rw[List.getD_eq_getElem?_getD,List.getElem?_append_right (by exact Nat.le_add_right _ _),List.getD_eq_getElem?_getD,Nat.add_sub_cancel_left]
 ·have aN:i<m:=by cases aK <;> simp only[gy] at ho <;> lia
  show (q.1.ae++q.2.1.ae).getD i .na=q.1.ae.getD i .na
  rw[List.getD_eq_getElem?_getD,List.getElem?_append_left (by exact pk ‹_› ‹_›),List.getD_eq_getElem?_getD]
theorem Wz:∀a∈kg,∀b∈kg,(gj a b).Nodup/\(∀t∈gj a b,t∈iW)/\(gj a b).length<=100:=by decide +kernel
theorem B8{kd:eQ}{ae:List bY}(h:∀v∈ae,fF kd v)(i:Nat):fF kd (ae.getD i .na):=by
 rw[List.getD_eq_getElem?_getD]
 cases e:ae[i]? with
 | none=>cases kd <;> trivial
 | some v=>exact h v (List.mem_of_getElem? e)
theorem CW{k l z:eQ}(h:lw k l z)(v:bY):(fF k v->fF z v)/\(fF l v->fF z v):=by
 cases h with
 | ii=>exact⟨id,id⟩
 | rV=>exact⟨id,id⟩
 | id=>exact⟨fun h=>by cases v <;> first|trivial|exact h,_root_.id⟩
 | pO a b=>exact⟨fun h=>by cases v <;> first|trivial|exact zb.mpr (.inl h)|exact h.elim,fun h=>by cases v <;> first|trivial|exact zb.mpr (.inr h)|exact h.elim⟩
theorem YR(kd:eQ):fF kd .na:=by cases kd <;> trivial
theorem kc{m n:Nat}{q:Key}(h:hY m n q)(p:c3):fF q.2.2 (gP q p)/\er (gP q p):=by
 have aw:=h.aE.er
 obtain⟨_|i,_|j⟩:=p
 ·exact⟨YR _,trivial⟩
 ·exact⟨(CW h.bL _).2 (B8 h.bj.ea j),qO h.bj.er j⟩
 ·exact⟨(CW h.bL _).1 (B8 h.aE.ea i),qO aw i⟩
 ·exact⟨(CW h.bL _).1 (B8 h.aE.ea i),qO aw i⟩
theorem LK{m n:Nat}{q:Key}{P:List c3}(h:hY m n q)(dj:∀p∈P,gy m n p)(aF:P.length<=5000):(fD P q).Ok 5000:=by
 have a5:(fD P q).kd=q.2.2:=rfl
 refine⟨?_,by rw[nZ h dj,List.length_map];exact aF,fun v aP=>?_⟩
 ·refine a5.symm▸?_
  have bL:=h.bL
  have aE:=h.aiG
  have bj:=h.aiH
  generalize q.1.kd=a at bL aE
  generalize q.2.1.kd=b at bL bj
  generalize q.2.2=z at bL
  cases bL with
  | pO a b=>exact Wz a (aE a rfl) b (bj b rfl)
  | _=>trivial
 ·replace aP:=(nZ h dj)▸aP
  refine aW (List.mem_map.mp aP) fun p Z aeM=>?_
  subst aeM
  exact(kc h p).1
noncomputable def rn:List bY:=[.na,.i (-1),.i 0,.i 1,.i 2,.i 3,.s "u",.s "v",.s "w",.s "x",.s "y"]
theorem sq{v:bY}(h:er v):v∈rn:=by
 cases v with
 | na=>trivial
 | i n=>exact J7 (fun v=>v∈rn) h (by decide)
 | s t=>
  have:∀t∈iW,bY.s t∈rn:=(by decide)
  exact this t h
 | q n=>exact h.elim
noncomputable def cells(v:bY):List Nat:=(nX v).cps.toList
theorem yo:∀a∈rn,∀b∈rn,(cells a=cells b->a=b)/\((cells a).head?=(cells b).head?->(cells a).length=(cells b).length)/\cells a≠[]:=by decide +kernel
theorem K6:∀a∈rn,∀b∈rn,(h8 [a,b]).cps.toList=cells a++cells b:=by decide +kernel
theorem Vm{ts us:List bY}(aF:ts.length=us.length)(h0:ts.length=1∨ts.length=2)(ht:∀v∈ts,er v)(de:∀v∈us,er v)(h:h8 ts=h8 us):ts=us:=by
 have aC:(h8 ts).cps.toList=(h8 us).cps.toList:=by exact congrArg _ (congrArg _ h)
 match ts,us,aF,h0,ht,de,aC with
 | [a],[b],Z,bt,ht,de,aC=>
  have bp:=sq (ht a (.head _))
  have aS:=sq (de b (.head _))
  skip
  rw[(yo a bp b aS).1 aC]
 | [a,b],[c,d],Z,bt,ht,de,aC=>
  have bp:=sq (ht a (.head _))
  have aS:=sq (ht b (.tail _ (.head _)))
  have bb:=sq (de c (.head _))
  have hd:=sq (de d (.tail _ (.head _)))
  replace aC:=(K6 c bb d hd)▸(K6 a bp b aS)▸aC
  refine fW (yo a bp c bb) fun iA gS oF=>?_
  have ib:(cells a).head?=(cells c).head?:=by
   have:=congrArg List.head? aC
   cases x3:cells a with
   | nil=>exact absurd x3 oF
   | cons x xs=>
    cases AB:cells c with
    | nil=>exact absurd AB ((yo c bb a bp).2.2)
    | cons y ys=>rw[x3,AB] at this;simpa using this
  refine bS (List.append_inj aC (gS ib)) fun x1 Gn=>?_
  rw[iA x1,(yo b aS d hd).1 Gn]
 | [],Z,bt,h0,cD,et,kI=>simp at h0
 | Z::bt::cD::et,kI,An,h0,O7,O8,akh=>simp at h0
noncomputable def fQ(ks:List Key)(i:Nat):List bY:=jS ks (some i,none)
noncomputable def hh(ks:List Key)(j:Nat):List bY:=jS ks (none,some j)
theorem CX(ks:List Key)(m:Nat):keysOf (cY ks) m=(List.range m).map fun i=>h8 (fQ ks i):=by
 apply List.map_congr_left
 intro i Z
 refine List.map_map.symm▸?_;rfl
theorem CY(ks:List Key)(n:Nat):keysOf (c4 ks) n=(List.range n).map fun j=>h8 (hh ks j):=by
 apply List.map_congr_left
 intro i Z
 refine List.map_map.symm▸?_;rfl
theorem yh{α:Type}(f:Nat->α)(z:α){m i:Nat}(h:i<m):((List.range m).map f).getD i z=f i:=by
 rw[List.getD_eq_getElem?_getD,List.getElem?_map,List.getElem?_range h];rfl
theorem nO{m n:Nat}{ks:List Key}(bp:∀q∈ks,hY m n q)(p:c3):∀v∈jS ks p,er v:=by
 intro v aP
 refine aW (List.mem_map.mp aP) fun q aL D2=>?_
 subst D2
 exact(kc (bp q aL) p).2
theorem vL(ks:List Key)(p:c3):(jS ks p).length=ks.length:=List.length_map ..
theorem WB{m n:Nat}{ks:List Key}(bp:∀q∈ks,hY m n q)(h0:ks.length=1∨ks.length=2)(p r:c3):h8 (jS ks p)=h8 (jS ks r)↔jS ks p=jS ks r:=
 ⟨Vm (by rw[vL,vL]) (by rw[vL];exact h0) (nO bp p) (nO bp r),fun h=>by exact congrArg _ h⟩
noncomputable def iU(ks:List Key)(m n:Nat)(ax bH:Bool):List c3:=qY (keysOf (cY ks) m) (keysOf (c4 ks) n) ax bH
noncomputable def q8(ks:List Key)(m n:Nat):List Row:=(List.range m).flatMap fun i=>((List.range n).filter fun j=>decide (fQ ks i=hh ks j)).map fun j=>((some i,some j),fQ ks i)
noncomputable def mN(ks:List Key)(m n:Nat):List Row:=((List.range m).filter fun i=>!decide (fQ ks i∈(List.range n).map (hh ks))).map fun i=>((some i,none),fQ ks i)
noncomputable def n0(ks:List Key)(m n:Nat):List Row:=((List.range n).filter fun j=>!decide (hh ks j∈(List.range m).map (fQ ks))).map fun j=>((none,some j),hh ks j)
noncomputable def q9(ks:List Key)(m n:Nat)(ax bH:Bool):List Row:=q8 ks m n++(if ax then mN ks m n else [])++(if bH then n0 ks m n else [])
theorem Jw{f g:Nat->List bY}{m n:Nat}(h:∀i j,h8 (f i)=h8 (g j)↔f i=g j):nN ((List.range m).map fun i=>h8 (f i)) ((List.range n).map fun j=>h8 (g j))=(List.range m).filter fun i=>!decide (f i∈(List.range n).map g):=by
 unfold nN
 rw[List.length_map,List.length_range]
 refine List.filter_congr fun i aN=>?_
 rw[yh _ _ (List.mem_range.mp aN)]
 congr 1
 rw[Bool.eq_iff_iff,List.contains_iff_mem,decide_eq_true_eq,List.mem_map,List.mem_map]
 exact⟨fun Ev=>by refine aW Ev fun j bL e=>?_;exact⟨j,bL,((h i j).mp e.symm).symm⟩,fun Er=>by refine aW Er fun j bL e=>?_;exact⟨j,bL,by exact congrArg _ e⟩⟩
theorem Tn{α β:Type}{f g:α->List β}:∀{xs:List α},(∀a∈xs,f a=g a)->xs.flatMap f=xs.flatMap g:=by
 intro es
 induction es with
 | nil=>
  intro Z
  exact rfl
 | cons a xs eo=>
  intro h
  rw[List.flatMap_cons,List.flatMap_cons,h a (.head _),eo fun b aS=>h b (.tail _ aS)]
noncomputable def rowOf(ks:List Key)(p:c3):Row:=(p,jS ks p)
theorem Vn{m n:Nat}{ks:List Key}(bp:∀q∈ks,hY m n q)(h0:ks.length=1∨ks.length=2)(ax bH:Bool):q9 ks m n ax bH=(iU ks m n ax bH).map (rowOf ks):=by
 have Go:=WB bp h0
 have aD:q8 ks m n=(oW (keysOf (cY ks) m) (keysOf (c4 ks) n)).map (rowOf ks):=by
  unfold q8 oW
  rw[List.map_flatMap,lH,lH]
  refine Tn fun i aN=>?_
  rw[List.map_map]
  have aiI:(List.range n).filter (fun j=>decide (fQ ks i=hh ks j))=jf (keysOf (c4 ks) n) n ((keysOf (cY ks) m).getD i ""):=by
   refine List.filter_congr fun j bL=>?_
   rw[CX,CY,yh _ _ (List.mem_range.mp aN),yh _ _ (List.mem_range.mp bL)]
   rw[Bool.eq_iff_iff,decide_eq_true_eq,beq_iff_eq]
   exact⟨fun e=>by rw[e],fun e=>((Go _ _).mp e).symm⟩
  refine aiI.symm▸?_;rfl
 have ak:mN ks m n=(v9 (nN (keysOf (cY ks) m) (keysOf (c4 ks) n))).map (rowOf ks):=by
  unfold mN v9
  rw[CX,CY,Jw (f:=fQ ks) (g:=hh ks) (fun i j=>Go _ _),List.map_map];rfl
 have bz:n0 ks m n=(wa (nN (keysOf (c4 ks) n) (keysOf (cY ks) m))).map (rowOf ks):=by
  unfold n0 wa
  rw[CX,CY,Jw (f:=hh ks) (g:=fQ ks) (fun i j=>Go _ _),List.map_map];rfl
 unfold q9 iU qY
 refine List.map_append.symm▸List.map_append.symm▸aD.symm▸ak.symm▸bz.symm▸?_
 cases ax <;> cases bH <;> rfl
end
section
variable {w:World} {B:bC w}
noncomputable def d2(q:Key):Bool×List Str:=match q.1.kd,q.2.1.kd with
 | .c1 a,.c1 b=>(true,a++b.filter fun t=>!a.contains t)
 | Z,bt=>(false,[])
noncomputable def ld(b:Bool)(w:Nat):Nat:=if b then 0 else if w=1 then 1 else 2
noncomputable def FP{α:Type}(A:α->Prop)(f g:α->List Nat):Prop:=∀a b,A a->A b->(f a<f b↔g a<g b)/\(f a=f b↔g a=g b)
theorem FP.same{α:Type}{A:α->Prop}{f g:α->List Nat}(h:∀a,A a->f a=g a):FP A f g:=fun a b bp aS=>by exact(h a bp).symm▸(h b aS).symm▸(⟨.rfl,.rfl⟩)
theorem DT{m n:Nat}{q:Key}(h:hY m n q){a b:List Str}(x3:q.1.kd=.c1 a)(PG:q.2.1.kd=.c1 b):d2 q=(true,gj a b)/\(gj a b).length<=200:=by
 have aw:=h.aE.kd
 have ai:=h.bj.kd
 replace aw:=x3▸aw
 replace ai:=PG▸ai
 have e:=acd aw.1 ai.1
 have:=List.length_filter_le (fun t=>!a.contains t) b
 have:=aw.2.2
 have:=ai.2.2
 refine⟨by unfold d2;rw[x3,PG,e],?_⟩
 rw[e,List.length_append];lia
structure ada(q:Key)(t:bY):Prop where
 ok:kx (m8 q.2.2) (dg q.2.2 t)
 key:FJ (d2 q) t
theorem LL{m n:Nat}{q:Key}(h:hY m n q){t:bY}(ht:fF q.2.2 t):ada q t:=by
 have bL:=h.bL
 have aF:=fun a b=>DT h (a:=a) (b:=b)
 have ev:∀z,q.1.kd=z->z.fT=false->d2 q=(false,[]):=fun z e a5=>by unfold d2;refine e.symm▸?_;cases z <;> first|rfl|injection a5
 obtain⟨x,y,z⟩:=q
 dsimp only at bL aF ht ev
 generalize aE:x.kd=a at bL
 generalize bj:y.kd=b at bL
 cases bL with
 | ii=>
  have e:=ev _ aE rfl
  cases t <;> first|exact ht.elim|exact⟨.z4,trivial⟩|exact⟨.int _ (vI ht),by exact congrArg _ e⟩
 | id=>
  have e:=ev _ aE rfl
  cases t <;> first|exact ht.elim|exact⟨.FE,trivial⟩|exact⟨.dbl _ ht,by exact congrArg _ e⟩
 | rV=>
  have e:=ev _ aE rfl
  cases t <;> first|exact ht.elim|exact⟨.z5,trivial⟩|exact⟨.chr _,by rw[e];exact fun h=>nomatch h⟩
 | pO a b=>
  cases t <;> first|exact ht.elim|exact⟨.z4,trivial⟩|exact⟨.int _ (by exact Int.natCast_nonneg _),by rw[((aF a b aE bj).1)];exact fun Z=>ht⟩
set_option tactic.hygienic true in
theorem WC{m n:Nat}{q:Key}(h:hY m n q):FP (fF q.2.2) (fun t=>ct (dg q.2.2 t)) (fun t=>ct (pe (d2 q).1 (d2 q).2 t)):=by
 have bL:=h.bL
 have aF:=fun a b=>DT h (a:=a) (b:=b)
 have ev:∀z,q.1.kd=z->z.fT=false->d2 q=(false,[]):=fun z e a5=>by unfold d2;refine e.symm▸?_;cases z <;> first|rfl|injection a5
 obtain⟨x,y,z⟩:=q
 dsimp only at bL aF ev ⊢
 generalize aE:x.kd=a at bL
 generalize bj:y.kd=b at bL
 cases bL with
 | ii=>refine(ev _ aE rfl).symm▸?_;exact .same fun t ht=>by cases t<;> first|exact ht.elim|rfl
 | id=>refine(ev _ aE rfl).symm▸?_;exact .same fun t ht=>by cases t<;> first|exact ht.elim|rfl
 | rV=>refine(ev _ aE rfl).symm▸?_;exact .same fun t ht=>by cases t<;> first|exact ht.elim|rfl
 | pO a b=>
  refine((aF a b aE bj).1).symm▸?_
  intro t u ht de
  cases t <;> cases u <;> first|exact ht.elim|exact de.elim|skip
  ·exact⟨.rfl,.rfl⟩
  ·simp[ct,dg,pe,List.cons_lt_cons_iff]
  ·simp[ct,dg,pe,List.cons_lt_cons_iff]
  ·rename_i s bP
   show ([0,((((gj a b).idxOf s+1:Nat):Int)+1).toNat] < [0,((((gj a b).idxOf bP+1:Nat):Int)+1).toNat]↔[0,((((gj a b).idxOf s:Nat):Int)+1).toNat] < [0,((((gj a b).idxOf bP:Nat):Int)+1).toNat])/\([0,((((gj a b).idxOf s+1:Nat):Int)+1).toNat]=[0,((((gj a b).idxOf bP+1:Nat):Int)+1).toNat]↔[0,((((gj a b).idxOf s:Nat):Int)+1).toNat]=[0,((((gj a b).idxOf bP:Nat):Int)+1).toNat])
   rw[qZ (by lia) (by lia),qZ (by lia) (by lia)]
   refine⟨by lia,?_⟩
   simp only[List.cons.injEq,and_true,true_and]
   lia
theorem WD{a b c d kK b' cV ui:List Nat}(aw:(a<b↔kK<b')/\(a=b↔kK=b'))(ai:c<d↔cV<ui):[a,c] < [b,d]↔[kK,cV] < [b',ui]:=by
 rw[CV,CV,aw.1,aw.2,ai]
noncomputable def n8(j:Nat)(ks:List Key)(P:List c3)(i:Nat):kj:=(pf j (ks.map d2) (jS ks (P.getD i (none,none)))).map ct
theorem Cu{kd:Str}{P:List c3}{f:c3->D}{i:Nat}(aN:i<P.length):iI i (.vec kd (.list (P.map f)) .none)=ct (f (P.getD i (none,none))):=by
 show ct ((P.map f).getD i .none)=_
 rw[List.getD_eq_getElem?_getD,List.getElem?_map,List.getD_eq_getElem?_getD,List.getElem?_eq_getElem aN];rfl
theorem yp{m n:Nat}{q:Key}{P:List c3}(h:hY m n q)(dj:∀p∈P,gy m n p):mc P.length (kf (fD P q))/\kf (fD P q)=.vec (m8 q.2.2) (.list (P.map fun p=>dg q.2.2 (gP q p))) .none:=by
 have e:kf (fD P q)=.vec (m8 q.2.2) (.list (P.map fun p=>dg q.2.2 (gP q p))) .none:=by
  unfold kf;rw[nZ h dj,List.map_map];rfl
 refine e.symm▸?_
 refine⟨.mk _ _ (List.length_map ..) (fun d hd=>?_) ?_,rfl⟩
 ·refine aW (List.mem_map.mp hd) fun p Z Ep=>?_
  subst Ep
  exact(LL h (kc h p).1).ok
 ·cases q.2.2 <;> first|exact .inl rfl|exact .inr (.inl rfl)|exact .inr (.inr rfl)
theorem K7{P:List c3}{f:c3->D}(hf:∀p,kx "character" (f p)):mc P.length (je (P.map f)):=
 .mk _ _ (List.length_map ..) (fun d hd=>by refine aW (List.mem_map.mp hd) fun p Z aeN=>?_;subst aeN;exact hf p) (.inr (.inr rfl))
theorem CZ{z:eQ}{t:bY}(h:fF z t)(a5:z.fT=true):kx "character" (f6 t)/\f6 t=cT t:=by
 cases z with
 | c1 lv=>cases t <;> first|exact h.elim|exact⟨.z5,rfl⟩|exact⟨.chr _,rfl⟩
 | _=>injection a5
theorem LN{z:eQ}{t:bY}(h:fF z t)(a5:z.fT=false):ct (dg z t)=ct (cT t):=by
 cases z with
 | c1 lv=>injection a5
 | _=>cases t <;> first|exact h.elim|rfl
structure Ey(j:Nat)(ks:List Key)(P:List c3)(r:List D):Prop where
 gg:lb P.length r
 lt:∀a b,a<P.length->b<P.length->(gK r a<gK r b↔n8 j ks P a<n8 j ks P b)
 eq:∀a b,a<P.length->b<P.length->(gK r a=gK r b↔n8 j ks P a=n8 j ks P b)
theorem yF{j:Nat}{ks:List Key}{P:List c3}{r:List D}{f g:c3->List Nat}(gg:lb P.length r)(aA:∀i,i<P.length->gK r i=[f (P.getD i (none,none))])(aF:∀i,n8 j ks P i=[g (P.getD i (none,none))])(iso:∀p dZ,(f p<f dZ↔g p<g dZ)/\(f p=f dZ↔g p=g dZ)):Ey j ks P r:=
 ⟨gg,fun a b bp aS=>by rw[aA a bp,aA b aS,aF,aF,CU,CU];exact(iso _ _).1,fun a b bp aS=>by rw[aA a bp,aA b aS,aF,aF];simp only[List.cons.injEq,and_true];exact(iso _ _).2⟩
theorem WF{j:Nat}{ks:List Key}{P:List c3}{r:List D}{f g kA ao:c3->List Nat}(gg:lb P.length r)(aA:∀i,i<P.length->gK r i=[f (P.getD i (none,none)),kA (P.getD i (none,none))])(aF:∀i,n8 j ks P i=[g (P.getD i (none,none)),ao (P.getD i (none,none))])(iso:∀p dZ,(f p<f dZ↔g p<g dZ)/\(f p=f dZ↔g p=g dZ))(Nf:∀p dZ,(kA p<kA dZ↔ao p<ao dZ)/\(kA p=kA dZ↔ao p=ao dZ)):Ey j ks P r:=
 ⟨gg,fun a b bp aS=>by rw[aA a bp,aA b aS,aF,aF];exact WD (iso _ _) (Nf _ _).1,fun a b bp aS=>by rw[aA a bp,aA b aS,aF,aF];simp only[List.cons.injEq,and_true];rw[(iso _ _).2,(Nf _ _).2]⟩
theorem adb{β:Type}{P:List c3}{f g:c3->bY}(F:bY->bY->β):((List.range (P.map f).length).map fun i=>F ((P.map f).getD i .na) ((P.map g).getD i .na))=P.map fun p=>F (f p) (g p):=by
 refine List.ext_getElem (by simp) fun i aw ai=>?_
 simp[(by simpa using ai)]
theorem YS{m n:Nat}{ks:List Key}{P:List c3}{b:Bool}(bp:∀q∈ks,hY m n q)(dj:∀p∈P,gy m n p)(h0:ks.length=1∨ks.length=2):∃r,rW b (ks.map (fD P)) r/\Ey (ld b ks.length) ks P r:=by
 have col:∀{q:Key},hY m n q->∀i,i<P.length->iI i (kf (fD P q))=ct (dg q.2.2 (gP q (P.getD i (none,none)))):=fun h i aN=>by rw[(yp h dj).2,Cu aN]
 have iso:∀{q:Key},hY m n q->∀p dZ,_:=fun {q} h p dZ=>WC h (gP q p) (gP q dZ) (kc h _).1 (kc h _).1
 rcases h0 with h0|h0
 ·refine cQ (wn h0) fun q Es=>?_
  subst Es
  have h:=bp q (.head _)
  have s1:=(yp h dj).1
  cases b with
  | true=>
   refine⟨_,.keys _,yF (.one s1) (fun i aN=>?_) (fun i=>?_) (iso h)⟩
   ·show [iI i (kf (fD P q))]=_
    rw[col h i aN]
   ·rfl
  | false=>
   cases a5:q.2.2.fT with
   | false=>
    refine⟨_,.one _ a5,yF (f:=fun p=>ct (dg q.2.2 (gP q p))) (g:=fun p=>ct (cT (gP q p))) (.one s1) (fun i aN=>?_) (fun i=>rfl) fun p dZ=>?_⟩
    ·show [iI i (kf (fD P q))]=_
     rw[col h i aN]
    ·exact(LN (kc h p).1 a5).symm▸(LN (kc h dZ).1 a5).symm▸(⟨.rfl,.rfl⟩)
   | true=>
    have e:(fD P q).ae.map f6=P.map fun p=>f6 (gP q p):=by rw[nZ h dj,List.map_map];rfl
    refine⟨_,.c1 _ a5,?_⟩
    rw[e]
    refine yF (f:=fun p=>ct (f6 (gP q p))) (g:=fun p=>ct (cT (gP q p))) (.one (K7 fun p=>(CZ (kc h p).1 a5).1)) (fun i aN=>?_) (fun i=>rfl) fun p dZ=>?_
    ·show [iI i (je _)]=_
     rw[Cu aN]
    ·exact((CZ (kc h p).1 a5).2).symm▸((CZ (kc h dZ).1 a5).2).symm▸(⟨.rfl,.rfl⟩)
 ·refine iY (zp h0) fun q mw aeO=>?_
  subst aeO
  have h:=bp q (.head _)
  have aC:=bp mw (.tail _ (.head _))
  cases b with
  | true=>
   refine⟨_,.keys _,WF (.two (yp h dj).1 (yp aC dj).1) (fun i aN=>?_) (fun i=>?_) (iso h) (iso aC)⟩
   ·show [iI i (kf (fD P q)),iI i (kf (fD P mw))]=_
    rw[col h i aN,col aC i aN]
   ·rfl
  | false=>
   refine⟨_,.two (fD P q) (fD P mw) (by rw[nZ h dj,nZ aC dj,List.length_map,List.length_map]),?_⟩
   rw[nZ h dj,nZ aC dj,adb (F:=fun u v=>D.str (o4 [u,v]))]
   refine yF (f:=fun p=>ct (.str (o4 [gP q p,gP mw p]))) (g:=fun p=>ct (.str (o4 [gP q p,gP mw p]))) (.one (K7 fun p=>.chr _)) (fun i aN=>?_) (fun i=>rfl) fun p dZ=>⟨.rfl,.rfl⟩
   show [iI i (je _)]=_
   rw[Cu aN]
theorem Ord.congr{K L:Nat->kj}{n:Nat}{o:List Nat}(h:Ord K n [o])(aw:∀a b,a<n->b<n->(K a<K b↔L a<L b))(ai:∀a b,a<n->b<n->(K a=K b↔L a=L b)):Ord L n [o]:=by
 have hm:=h.tj.2
 refine⟨fun r aA=>?_,h.next,h.all⟩
 obtain rfl:=List.mem_singleton.mp aA
 refine(h.each _ (.head _)).imp_of_mem fun {a b} bp aS q=>?_
 rw[qS] at q ⊢
 rw[<- aw a b (hm a bp) (hm b aS),<- ai a b (hm a bp) (hm b aS)];exact q
noncomputable def pg(ks:List Key)(m n:Nat)(ax bH:Bool):List Row:=match ks with
 | []=>(iq m n).map (rowOf [])
 | ks=>nY (gO (ld (ax||bH) ks.length) (ks.map d2)) ((iU ks m n ax bH).map (rowOf ks))
theorem adc{j:Nat}{ks:List Key}{P:List c3}{o:List Nat}(h:Ord (n8 j ks P) P.length [o]):nY (gO j (ks.map d2)) (P.map (rowOf ks))=(fV o P).map (rowOf ks):=by
 have e:=Uw (gO j (ks.map d2)) (fun i=>rowOf ks (P.getD i (none,none))) (List.range P.length)
 rw[map_getD (rowOf ks)] at e
 rw[e]
 show (nY (fun a b=>decide (n8 j ks P a<n8 j ks P b)) _).map _=_
 rw[Vl h]
 unfold fV;rw[List.map_map];rfl
noncomputable def k4(Q:List c3)(q:Key):cG:=⟨q.2.2,Q.map (gP q)⟩
noncomputable def k1(ks:List Key)(m n:Nat)(Q:List c3):List cG:=ks.map (k4 Q)++[(em 10 m).pick (jg Q),(em 20 n).pick (iX Q)]
noncomputable def wf(ks:List Key)(m n:Nat)(same:Bool)(Q:List c3):D:=outD (k1 ks m n Q) (sR (dm ks.length) (hU true) (hU same)) Q.length
theorem yG(b m:Nat):(em b m).ae.length=m:=by unfold em;rw[List.length_map,List.length_range]
theorem Vo{m n:Nat}{q:Key}{P:List c3}{o:List Nat}(h:hY m n q)(dj:∀p∈P,gy m n p)(ho:∀i∈o,i<P.length):(fD P q).pick (o.map some)=k4 (fV o P) q:=by
 unfold cG.pick k4 fV
 rw[List.map_map,List.map_map]
 congr 1
 refine List.map_congr_left fun i aN=>?_
 show (fD P q).ae.getD i .na=gP q (P.getD i (none,none))
 have:=ho i aN
 refine(nZ h dj).symm▸(List.getD_eq_getElem?_getD).symm▸(List.getElem?_map).symm▸(List.getD_eq_getElem?_getD).symm▸(List.getElem?_eq_getElem this).symm▸?_;rfl
theorem MD:∀s w,w<=2->zz (dm w) (hU s):=by
 intro s w hw
 have:=(show ∀s,∀w∈[0,1,2],(∀b∈dm w,(dm w++[hU s]).countP (·==b)=1)/\∀b∈dm w++[hU s],b.length<=10 from by decide +kernel) s w (by simp;lia)
 exact⟨this.1,this.2⟩
theorem iy.up{m n:Nat}{ks:List Key}(h:iy m n ks):M8 m n ks:=⟨by have:=h.hm;exact bO ‹_›,by have:=h.hn;exact bO ‹_›,h.len,fun q aL=>let z:=h.all q aL;⟨z.bL,z.aE.le (by decide),z.bj.le (by decide),z.j4,z.nv⟩⟩
theorem ade{m n:Nat}{ks:List Key}{ax bH:Bool}:∀p∈iU ks m n ax bH,gy m n p:=by
 have:=Jr (xs:=keysOf (cY ks) m) (ys:=keysOf (c4 ks) n) (ax:=ax) (bH:=bH)
 rw[lH,lH] at this
 exact this
theorem LO{m n:Nat}{ks:List Key}{ax bH:Bool}(hm:m<=4)(hn:n<=4):(iU ks m n ax bH).length<=24:=by
 have aw:=I2 (keysOf (cY ks) m) (keysOf (c4 ks) n)
 have a3:=yg (keysOf (cY ks) m) (keysOf (c4 ks) n)
 have bn:=yg (keysOf (c4 ks) n) (keysOf (cY ks) m)
 rw[lH,lH] at aw
 rw[lH] at a3 bn
 have ai:n * m<=4 * 4:=Nat.mul_le_mul hn hm
 unfold iU qY v9 wa
 refine List.length_append.symm▸List.length_append.symm▸?_
 split <;> split <;> simp only[List.length_map,List.length_nil] <;> lia
theorem WG{m n:Nat}{ks:List Key}{same ax bH:Bool}{k:D->Prop}(ho:iy m n ks)(av:∀Q,(∀p∈Q,gy m n p)->Q.length<=24->pg ks m n ax bH=Q.map (rowOf ks)->k (wf ks m n same Q)):
  mY [Ae m ks,xA n ks same,cq (dm ks.length),.bool ax,.bool bH,.list [.str ".x",.str ".y"]] k:=by
 have hm:=ho.hm
 have hn:=ho.hn
 have hlen:=ho.len
 have oD:=MD true ks.length hlen
 have fw:=MD same ks.length hlen
 by_cases h0:ks=[]
 ·subst h0
  have al:(iq m n).length<=24:=by
   have:=qP (g:=fun j=>(List.range m).map fun i=>((some i,some j):c3)) (m:=m) (List.range n) fun j Z=>by rw[List.length_map,List.length_range];exact Nat.le_refl _
   rw[List.length_range] at this
   have ai:m * n<=4 * 4:=Nat.mul_le_mul hm hn
   exact ra ‹_› ‹_›
  exact ahx (by exact bO ‹_›) (by exact bO ‹_›) (by rw[yG];exact bO ‹_›) (by rw[yG];exact bO ‹_›) (oD.len _ (.head _)) (fw.len _ (.head _)) (av (iq m n) KU al rfl)
 ·have hw:ks.length=1∨ks.length=2:=by have:=List.length_pos_iff.mpr h0;lia
  have dj:=ade (m:=m) (n:=n) (ks:=ks) (ax:=ax) (bH:=bH)
  have eg:=LO (ks:=ks) (ax:=ax) (bH:=bH) hm hn
  refine aW (YS (b:=ax||bH) ho.all dj hw) fun r mo aA=>?_
  refine ahs (P:=iU ks m n ax bH) ho.up h0 (by rw[yG];exact bO ‹_›) (by rw[yG];exact bO ‹_›) oD fw rfl (by exact bO ‹_›) (fun q aL=>LK (ho.all q aL) dj (by exact bO ‹_›)) mo aA.gg fun o h=>?_
  have:=av (fV o (iU ks m n ax bH)) (KW h dj) (by unfold fV;rw[List.length_map,h.tj.1];exact eg) (by cases ks with|nil=>exact absurd rfl h0|cons q ks=>exact(adc (h.congr aA.lt aA.eq)))
  unfold wf k1 at this
  rw[show (fV o (iU ks m n ax bH)).length=(iU ks m n ax bH).length by unfold fV;rw[List.length_map,h.tj.1]] at this
  rw[show ks.map (fun q=>(fD (iU ks m n ax bH) q).pick (o.map some))=ks.map (k4 (fV o (iU ks m n ax bH))) from List.map_congr_left fun q aL=>Vo (ho.all q aL) dj h.tj.2]
  exact this
end
section
variable {w:World} {B:bC w}
theorem adf{f:V}{m n:Nat}{ks:List Key}{same ax bH:Bool}{h c:V}{k:dM->aO->Prop}(ho:iy m n ks)(av:∀Q,(∀p∈Q,gy m n p)->Q.length<=24->pg ks m n ax bH=Q.map (rowOf ks)->Ac ((104,.aX (wf ks m n same Q))::t5 f m n ks same ax bH h c) k):Ad (t5 f m n ks same ax bH h c) k:=by
 unfold Ad
 exact WG ho av
noncomputable def yY(ks:List Key):D:=.list [.list ((cY ks).map fun c=>.list (c.ae.map cT)),.list ((c4 ks).map fun c=>.list (c.ae.map cT))]
noncomputable def fE(ts:List bY):D:=.tup (ts.map cT)
noncomputable def zh(m n:Nat)(ks:List Key):D:=.list [.list ((List.range m).map fun i=>fE (fQ ks i)),.list ((List.range n).map fun j=>fE (hh ks j))]
theorem K8{c:cG}{ρ:aO}{k:D->aO->Prop}(bb:c.Ok 5000)(av:k (.list (c.ae.map cT)) ρ):fJ 35 cg (cy (aT n7 (aj (ag 35) az))) (c.ae.map (wT c.kd)) [] ρ fun out bW=>k (.list out) bW:=
 comp_map (e:=wT c.kd) (g:=cT) c.ae [] (by rw[List.length_nil];have:=bb.len;lia) (fun v aP K aZ=>Mz (bb.ea v aP) aZ) av
theorem ME{l:List D}{k:D->Prop}(h:l.length<=10000)(av:k (.tup l)):a8 sy [.list l] k:=dA (if_pos h) av
theorem adg{f:V}{m n:Nat}{ks:List Key}{same ax bH:Bool}{h c:V}{T:D}{k:dM->aO->Prop}(ho:iy m n ks)(av:t4 ((42,.aX (zh m n ks))::(102,.aX (yY ks))::(104,.aX T)::t5 f m n ks same ax bH h c) k):Ac ((104,.aX T)::t5 f m n ks same ax bH h c) k:=by
 have hm:=ho.hm
 have hn:=ho.hn
 have hw:=ho.len
 have j4:(cY ks).length=ks.length:=by unfold cY;rw[List.length_map]
 have nv:(c4 ks).length=ks.length:=by unfold c4;rw[List.length_map]
 have kH:∀i,i<ks.length->((cY ks).getD i (em 10 m)).Ok 5000/\((cY ks).getD i (em 10 m)).ae.length=m:=fun i aN=>by
  have q:=ho.all ks[i] (List.getElem_mem _)
  rw[List.getD_eq_getElem?_getD,List.getElem?_eq_getElem (by omega)];unfold cY;rw[List.getElem_map];exact⟨q.aE.le (by decide),q.j4⟩
 have ur:∀i,i<ks.length->((c4 ks).getD i (em 20 n)).Ok 5000/\((c4 ks).getD i (em 20 n)).ae.length=n:=fun i aN=>by
  have q:=ho.all ks[i] (List.getElem_mem _)
  rw[List.getD_eq_getElem?_getD,List.getElem?_eq_getElem (by omega)];unfold c4;rw[List.getElem_map];exact⟨q.bj.le (by decide),q.nv⟩
 unfold Ac
 refine dI (d0 (n:=2) (by decide)) (dI (d0 (n:=ks.length) (by omega)) ?_)
 show fJ _ _ _ (eR 0 ks.length 1) _ _ _
 rw[hk]
 refine comp_map (e:=fun i:Nat=>D.int (i:Int)) (g:=fun i=>.list (((cY ks).getD i (em 10 m)).ae.map cT)) _ [] (by rw[List.length_nil,List.length_range];omega) (fun i aN K aZ=>?_) ?_
 ·have aN:=List.mem_range.mp aN
  exact b6 (oR (by omega) (by omega)) (DQ (kH i aN).1 (K8 (kH i aN).1 aZ))
 rw[List.nil_append,<- j4,map_getD (fun c:cG=>D.list (c.ae.map cT))]
 refine dI (d0 (n:=ks.length) (by omega)) ?_
 show fJ _ _ _ (eR 0 ks.length 1) _ _ _
 rw[hk]
 refine comp_map (e:=fun i:Nat=>D.int (i:Int)) (g:=fun i=>.list (((c4 ks).getD i (em 20 n)).ae.map cT)) _ [] (by rw[List.length_nil,List.length_range];omega) (fun i aN K aZ=>?_) ?_
 ·have aN:=List.mem_range.mp aN
  exact b6 (oR (by omega) (by omega)) (DQ (ur i aN).1 (K8 (ur i aN).1 aZ))
 rw[List.nil_append,<- nv,map_getD (fun c:cG=>D.list (c.ae.map cT))]
 refine dI (d0 (n:=2) (by decide)) (dI (d0 (n:=m) (by omega)) ?_)
 show fJ _ _ _ (eR 0 m 1) _ _ _
 rw[hk]
 refine comp_map (e:=fun i:Nat=>D.int (i:Int)) (g:=fun i=>fE (fQ ks i)) _ [] (by rw[List.length_nil,List.length_range];omega) (fun i aN K aZ=>dI (d0 (n:=ks.length) (by omega)) ?_) ?_
 ·have aN:=List.mem_range.mp aN
  show fJ _ _ _ (eR 0 ks.length 1) _ _ _
  rw[hk]
  refine comp_map (e:=fun j:Nat=>D.int (j:Int)) (g:=fun j=>cT (((cY ks).getD j (em 10 m)).ae.getD i .na)) _ [] (by rw[List.length_nil,List.length_range];omega) (fun j bL K aZ=>?_) ?_
  ·have bL:=List.mem_range.mp bL
   exact b6 (mz (f:=fun c:cG=>D.list (c.ae.map cT)) (l:=cY ks) (em 10 m) (by omega) (by omega)) (b6 (mz (f:=cT) .na (by rw[(kH j bL).2];exact aN) (by rw[(kH j bL).2];omega)) aZ)
  ·rw[List.nil_append,<- j4,map_getD (fun c:cG=>cT (c.ae.getD i .na))]
   refine ME (by rw[List.length_map];omega) ?_
   unfold fE fQ jS at aZ
   rw[List.map_map] at aZ
   unfold cY;rw[List.map_map];exact aZ
 refine dI (d0 (n:=n) (by omega)) ?_
 show fJ _ _ _ (eR 0 n 1) _ _ _
 rw[hk]
 refine comp_map (e:=fun i:Nat=>D.int (i:Int)) (g:=fun i=>fE (hh ks i)) _ [] (by rw[List.length_nil,List.length_range];omega) (fun i aN K aZ=>dI (d0 (n:=ks.length) (by omega)) ?_) av
 have aN:=List.mem_range.mp aN
 show fJ _ _ _ (eR 0 ks.length 1) _ _ _
 rw[hk]
 refine comp_map (e:=fun j:Nat=>D.int (j:Int)) (g:=fun j=>cT (((c4 ks).getD j (em 20 n)).ae.getD i .na)) _ [] (by rw[List.length_nil,List.length_range];omega) (fun j bL K aZ=>?_) ?_
 ·have bL:=List.mem_range.mp bL
  exact b6 (mz (f:=fun c:cG=>D.list (c.ae.map cT)) (l:=c4 ks) (em 20 n) (by omega) (by omega)) (b6 (mz (f:=cT) .na (by rw[(ur j bL).2];exact aN) (by rw[(ur j bL).2];omega)) aZ)
 ·rw[List.nil_append,<- nv,map_getD (fun c:cG=>cT (c.ae.getD i .na))]
  refine ME (by rw[List.length_map];omega) ?_
  unfold fE hh jS at aZ
  rw[List.map_map] at aZ
  unfold c4;rw[List.map_map];exact aZ
end
section
variable {w:World} {B:bC w}
noncomputable def e3:bY->PyData|.i n=>.int n|.s t=>.str t|_=>.none
theorem C0:∀ts:List bY,D.l7 (ts.map cT)=some (ts.map e3)
 | []=>by rfl
 | t::ts=>by
  show (D.py (cT t)).bind (fun p=>(D.l7 (ts.map cT)).map (p::·))=_
  rw[C0 ts]
  cases t <;> rfl
theorem yZ(ts:List bY):D.py (fE ts)=some (.tuple (ts.map e3)):=
 congrArg (Option.map PyData.tuple) (C0 ts)
noncomputable def rH:bY->Prop|.s t=>PyData.strOk t=true|_=>True
theorem Cv{v:bY}(h:er v):rH v:=by
 cases v with
 | s t=>
  have:∀t∈iW,PyData.strOk t=true:=by decide +kernel
  exact this t h
 | _=>trivial
theorem C1:∀{ts:List bY},(∀v∈ts,rH v)->PyData.canLayAll0 (ts.map e3)=true/\PyData.depthAll (ts.map e3)=0:=by
 intro es
 induction es with
 | nil=>
  intro Z
  exact(by decide)
 | cons t ts eo=>
  intro h
  refine bS (eo fun v aP=>h v (.tail _ aP)) fun aw ai=>?_
  have ht:=h t (.head _)
  refine List.map_cons.symm▸?_
  rw[PyData.canLayAll0,PyData.depthAll]
  refine aw.symm▸?_
  refine ai.symm▸?_
  cases t with
  | s t=>simp[e3,PyData.canLay0,PyData.depth];exact ht
  | _=>simp[e3,PyData.canLay0,PyData.depth]
theorem Bv{ts:List bY}(h:∀v∈ts,er v):SeqAt.shaped (.tuple (ts.map e3))=true:=by
 refine bS (C1 fun v aP=>Cv (h v aP)) fun aw ai=>?_
 unfold SeqAt.shaped
 rw[PyData.canLay0,PyData.depth]
 refine aw.symm▸?_
 refine ai.symm▸?_;rfl
theorem YT{a b:bY}(bp:er a)(aS:er b):PyData.eqv (e3 a) (e3 b)=decide (a=b):=by
 cases a <;> cases b <;> first|exact bp.elim|exact aS.elim|(simp[e3,PyData.eqv];done)|(rw[Bool.eq_iff_iff];simp[e3,PyData.eqv])
theorem BI:∀{ts us:List bY},(∀v∈ts,er v)->(∀v∈us,er v)->PyData.eqvAll (ts.map e3) (us.map e3)=decide (ts=us)
 | [],[],Z,bt=>(by rfl)
 | [],Z::bt,cD,et=>(by rfl)
 | Z::bt,[],cD,et=>(by rfl)
 | a::ts,b::us,bp,aS=>by
  refine List.map_cons.symm▸?_
  rw[List.map_cons,PyData.eqvAll,YT (bp a (.head _)) (aS b (.head _)),BI (fun v aP=>bp v (.tail _ aP)) fun v aP=>aS v (.tail _ aP)]
  rw[Bool.eq_iff_iff,Bool.and_eq_true,decide_eq_true_eq,decide_eq_true_eq,decide_eq_true_eq,List.cons.injEq]
theorem YV{ts us:List bY}(ht:∀v∈ts,er v)(de:∀v∈us,er v):ck (fE ts) (fE us)=some (decide (ts=us)):=by
 show og (fE ts) (fE us)=_
 unfold og
 rw[yZ,yZ,Option.bind_some,Option.bind_some]
 refine(Bv ht).symm▸?_
 refine(Bv de).symm▸?_
 rw[if_pos (by rfl),PyData.eqv,BI ht de]
theorem Ki:∀l:List (List bY),D.l7 (l.map fE)=some (l.map fun us=>PyData.tuple (us.map e3))
 | []=>by rfl
 | us::l=>by show (D.py (fE us)).bind (fun p=>(D.l7 (l.map fE)).map (p::·))=_;rw[Ki l,yZ];rfl
theorem Kj:∀{l:List (List bY)},(∀us∈l,∀v∈us,er v)->PyData.canLayAll0 (l.map fun us=>PyData.tuple (us.map e3))=true/\PyData.depthAll (l.map fun us=>PyData.tuple (us.map e3))<=1
 | [],Z=>(by decide)
 | us::l,h=>by
  refine bS (Kj (l:=l) fun x aE=>h x (.tail _ aE)) fun aw ai=>?_
  refine bS (C1 fun v aP=>Cv (h us (.head _) v aP)) fun g1 g2=>?_
  rw[List.map_cons,PyData.canLayAll0,PyData.depthAll,aw,PyData.canLay0,PyData.depth,g1,g2]
  exact⟨rfl,by lia⟩
theorem B9:∀ts us:List bY,SeqAt.noMixAll (ts.map e3) (us.map e3)=true
 | [],[]=>(by rfl)
 | [],Z::bt=>(by rfl)
 | Z::bt,[]=>(by rfl)
 | a::ts,b::us=>by
  skip
  refine(B9 ts us).symm▸?_
  cases a <;> cases b <;> rfl
theorem I3{ts:List bY}(ht:∀v∈ts,er v):∀l:List (List bY),(∀us∈l,∀v∈us,er v)->0<=Spec.countIn (.tuple (ts.map e3)) (l.map fun us=>PyData.tuple (us.map e3))/\(Spec.countIn (.tuple (ts.map e3)) (l.map fun us=>PyData.tuple (us.map e3))≠0↔ts∈l)
 | [],Z=>by simp[Spec.countIn]
 | us::l,h=>by
  refine bS (I3 ht l fun x aE=>h x (.tail _ aE)) fun iA gS=>?_
  have e:Spec.same (.tuple (us.map e3)) (.tuple (ts.map e3))=decide (us=ts):=by
   rw[SeqAt.same_eq_eqv _ _ (by exact B9 us ts),PyData.eqv,BI (h us (.head _)) ht]
  refine List.map_cons.symm▸?_
  rw[Spec.countIn,e,List.mem_cons]
  by_cases q:us=ts
  ·subst q;simp;lia
  ·have:¬ts=us:=fun e=>q e.symm
   simp[q,this];exact⟨iA,gS⟩
theorem WH{ts:List bY}{l:List (List bY)}(ht:∀v∈ts,er v)(aF:∀us∈l,∀v∈us,er v):ip (fE ts) (.list (l.map fE))=some (!decide (ts∈l)):=by
 have aw:mem (fE ts) (.list (l.map fE))=inD (fE ts) (l.map fE):=rfl
 have ai:inD (fE ts) (l.map fE)=some (decide (ts∈l)):=by
  unfold inD
  rw[yZ,Ki,Option.bind_some,Option.bind_some]
  refine bS (Kj aF) fun g1 g2=>?_
  have hs:SeqAt.shaped (.list (l.map fun us=>PyData.tuple (us.map e3)))=true:=by
   unfold SeqAt.shaped
   rw[PyData.canLay0,PyData.depth,g1,Bool.true_and]
   exact decide_eq_true (by exact hO ‹_›)
  have bp:((l.map fun us=>PyData.tuple (us.map e3)).all fun y=>SeqAt.noMix y (.tuple (ts.map e3)))=true:=by
   rw[List.all_eq_true]
   intro y bj
   refine aW (List.mem_map.mp bj) fun us Z l8=>?_
   subst l8
   exact B9 us ts
  rw[Bv ht,hs,bp,if_pos (by rfl)]
  congr 1
  rw[Bool.eq_iff_iff,decide_eq_true_eq,decide_eq_true_eq]
  exact(I3 ht l aF).2
 show (mem (fE ts) (.list (l.map fE))).map _=_
 rw[aw,ai];rfl
theorem Jx{ts:List bY}(h:∀v∈ts,rH v):ck (.list (ts.map cT)) (.list (ts.map cT))=some true/\gf (.list (ts.map cT)) (.list (ts.map cT))=some false:=by
 have e:ck (.list (ts.map cT)) (.list (ts.map cT))=some true:=by
  show og _ _=_
  refine bS (C1 h) fun g1 g2=>?_
  have hs:SeqAt.shaped (.list (ts.map e3))=true:=by
   unfold SeqAt.shaped
   rw[PyData.canLay0,PyData.depth]
   refine g1.symm▸?_
   refine g2.symm▸?_;rfl
  unfold og
  rw[show D.py (.list (ts.map cT))=(D.l7 (ts.map cT)).map PyData.list from rfl,C0]
  show (if SeqAt.shaped (.list (ts.map e3))&&SeqAt.shaped (.list (ts.map e3)) then some (PyData.eqv (.list (ts.map e3)) (.list (ts.map e3))) else none)=_
  refine hs.symm▸?_
  rw[if_pos (by rfl),SeqAt.eqv_refl _ (by exact g1)]
 exact⟨e,by exact congrArg _ e⟩
theorem Ca{α:Type}{x:Nat}{S:iz}{e:α->D}{g:α->List D}{ρ:aO}{k:List D->aO->Prop}(N:Nat):∀(xs:List α) (acc:List D),acc.length+(xs.flatMap g).length<=N->
  (∀a∈xs,∀acc:List D,acc.length+(g a).length<=N->∀K:List D->aO->Prop,K (acc++g a) ((x,.aX (e a))::ρ)->S acc ((x,.aX (e a))::ρ) K)->k (acc++xs.flatMap g) ρ->fJ x cg S (xs.map e) acc ρ k
 | [],acc,Z,bt,av=>by rw[List.flatMap_nil,List.append_nil] at av;exact av
 | a::xs,acc,a5,jZ,av=>by
  rw[List.flatMap_cons,List.length_append] at a5
  rw[List.flatMap_cons,<- List.append_assoc] at av
  exact jZ a (.head _) acc (by lia) _ (Ca N xs (acc++g a) (by rw[List.length_append];lia) (fun b aS=>jZ b (.tail _ aS)) av)
theorem q0{m:Nat}{f:Nat->List bY}{i:Nat}(h:i<m)(hm:m<=100):item (.list ((List.range m).map fun i=>fE (f i))) (.int i)=some (fE (f i)):=h1 (by exact jc ‹_› ‹_›) (by rw[List.getElem?_map,List.getElem?_range h];rfl)
noncomputable abbrev ky(f:V)(m n:Nat)(ks:List Key)(same ax bH:Bool)(h c:V)(T:D):aO:=(42,.aX (zh m n ks))::(102,.aX (yY ks))::(104,.aX T)::t5 f m n ks same ax bH h c
inductive FS(m n:Nat)(ks:List Key)(same ax bH:Bool)(T:D)(R:List D):aO->Prop
 | no (a:Addr) (f h c:V):FS m n ks same ax bH T R ((84,.mt a (.list R))::ky f m n ks same ax bH h c T)
 | cf (FQ f h c:V):FS m n ks same ax bH T R [(48,FQ),(84,.aX (.list R)),(42,.aX (zh m n ks)),(102,.aX (yY ks)),(104,.aX T),(7,.aX (cq (dm ks.length))),(39,.aX (.list [.bool ax,.bool bH])),(32,.aX (.list [Ae m ks,xA n ks same])),(61,.aX (tk ks.length same)),(86,.aX (.bool same)),(24,f),(93,.aX (.list [.list (h6 (cY ks) (em 10 m)),.list (h6 (c4 ks) (em 20 n))])),(109,.cf (.int ks.length)),(100,.aX (.list [.int m,.int n])),(33,h),(9,c),(90,.mt 796 .k2)]
 | aX (FQ f h c:V):FS m n ks same ax bH T R [(48,FQ),(84,.aX (.list R)),(42,.aX (zh m n ks)),(102,.aX (yY ks)),(104,.aX T),(7,.aX (cq (dm ks.length))),(39,.aX (.list [.bool ax,.bool bH])),(32,.aX (.list [Ae m ks,xA n ks same])),(61,.aX (tk ks.length same)),(86,.aX (.bool same)),(24,f),(93,.aX (.list [.list (h6 (cY ks) (em 10 m)),.list (h6 (c4 ks) (em 20 n))])),(109,.aX (.int ks.length)),(100,.aX (.list [.int m,.int n])),(33,h),(9,c),(90,.mt 796 .k2)]
theorem YW{f:V}{m n:Nat}{ks:List Key}{same ax bH:Bool}{h c:V}{T:D}{k:dM->aO->Prop}(ho:iy m n ks)(h0:ks=[])(av:∀ρ,FS m n ks same ax bH T ((pg ks m n ax bH).map dR) ρ->t2 ρ k):t4 (ky f m n ks same ax bH h c T) k:=by
 have hm:=ho.hm
 have hn:=ho.hn
 subst h0
 unfold t4
 refine dI (d0 (n:=n) (by exact bO ‹_›)) ?_
 show fJ _ _ _ (eR 0 n 1) _ _ _
 rw[hk]
 refine Ca (e:=fun j:Nat=>D.int (j:Int)) (g:=fun j=>(List.range m).map fun i:Nat=>dR (((some i,some j):c3),[])) 1000 (List.range n) [] ?_ (fun j bL acc Ng K aZ=>dI (d0 (n:=m) (by exact bO ‹_›)) ?_) fun a=>?_
 ·have:=qP (g:=fun j=>(List.range m).map fun i:Nat=>dR (((some i,some j):c3),[])) (m:=m) (List.range n) fun j Z=>by rw[List.length_map,List.length_range];exact Nat.le_refl _
  rw[List.length_range] at this
  have ai:m * n<=4 * 4:=Nat.mul_le_mul hm hn
  refine List.length_nil.symm▸?_;lia
 ·rw[List.length_map,List.length_range] at Ng
  show fJ _ _ _ (eR 0 m 1) _ _ _
  rw[hk]
  exact comp_map (e:=fun i:Nat=>D.int (i:Int)) (g:=fun i:Nat=>dR (((some i,some j):c3),[])) (List.range m) acc (by rw[List.length_range];exact bO ‹_›) (fun i aN K aZ=>aZ) aZ
 ·have e:(pg [] m n ax bH).map dR=[]++(List.range n).flatMap fun j=>(List.range m).map fun i:Nat=>dR (((some i,some j):c3),[]):=by
   show ((iq m n).map (rowOf [])).map dR=_
   unfold iq
   rw[List.map_map,List.map_flatMap]
   simp only[List.map_map];rfl
  exact(e▸av) _ (.no a f h c)
theorem C2{m n:Nat}{ks:List Key}(hm:m<=4)(hn:n<=4):(q8 ks m n).length<=16/\(mN ks m n).length<=4/\(n0 ks m n).length<=4:=by
 have ai:n * m<=4 * 4:=Nat.mul_le_mul hn hm
 refine⟨?_,?_,?_⟩
 ·have:=qP (g:=fun i=>((List.range n).filter fun j=>decide (fQ ks i=hh ks j)).map fun j=>(((some i,some j),fQ ks i):Row)) (m:=n) (List.range m) fun i Z=>by
   rw[List.length_map]
   have:=List.length_filter_le (fun j=>decide (fQ ks i=hh ks j)) (List.range n)
   rw[List.length_range] at this;exact this
  rw[List.length_range] at this
  exact ra ‹_› ‹_›
 ·have:=List.length_filter_le (fun i=>!decide (fQ ks i∈(List.range n).map (hh ks))) (List.range m)
  rw[List.length_range] at this
  unfold mN;rw[List.length_map];exact ra ‹_› ‹_›
 ·have:=List.length_filter_le (fun j=>!decide (hh ks j∈(List.range m).map (fQ ks))) (List.range n)
  rw[List.length_range] at this
  unfold n0;rw[List.length_map];exact ra ‹_› ‹_›
theorem mem_keys{f g:Nat->List bY}{i n:Nat}(hf:∀i,∀v∈f i,er v)(cR:∀j,∀v∈g j,er v):ip (fE (f i)) (.list ((List.range n).map fun j=>fE (g j)))=some (!decide (f i∈(List.range n).map g)):=by
 have:=WH (l:=(List.range n).map g) (hf i) fun us Fh=>by refine aW (List.mem_map.mp Fh) fun j Z xB=>?_;subst xB;exact cR j
 rw[List.map_map] at this;exact this
theorem YX{f:V}{a:Addr}{m n:Nat}{ks:List Key}{same ax bH:Bool}{h c:V}{T:D}{acc:List D}{k:dM->aO->Prop}(ho:iy m n ks)(a5:acc.length<=100)(av:tZ ((84,.mt a (.list (acc++(if bH then n0 ks m n else []).map dR)))::ky f m n ks same ax bH h c T) k):Ew ((84,.mt a (.list acc))::ky f m n ks same ax bH h c T) k:=by
 have hm:=ho.hm
 have hn:=ho.hn
 unfold Ew
 cases bH with
 | false=>rw[if_neg Bool.false_ne_true,List.map_nil,List.append_nil] at av;exact av
 | true=>
  have z:=(C2 (ks:=ks) hm hn).2.2
  rw[if_pos rfl] at av
  refine dI (d0 (n:=n) (by exact bO ‹_›)) ?_
  show fJ _ _ _ (eR 0 n 1) _ _ _
  rw[hk]
  refine oO (e:=fun i:Nat=>D.int (i:Int)) (g:=fun i=>dR ((none,some i),hh ks i)) (p:=fun i=>!decide (hh ks i∈(List.range m).map (fQ ks))) (List.range n) [] (by exact List.length_nil.symm▸List.length_range.symm▸(eN ‹_›)) (fun i aN K aZ=>?_) (fun i aN Z K aZ=>?_) ⟨rfl,?_,?_⟩
  ·exact b6 (q0 (List.mem_range.mp aN) (by exact bO ‹_›)) (il (mem_keys (fun i=>nO ho.all _) (fun i=>nO ho.all _)) aZ)
  ·exact b6 (q0 (List.mem_range.mp aN) (by exact bO ‹_›)) aZ
  ·unfold n0 at z
   rw[List.length_map] at z
   simp only[List.nil_append,List.length_map];lia
  ·unfold n0 at av
   rw[List.map_map] at av;exact av
theorem YY{f:V}{a:Addr}{m n:Nat}{ks:List Key}{same ax bH:Bool}{h c:V}{T:D}{acc:List D}{k:dM->aO->Prop}(ho:iy m n ks)(a5:acc.length<=50)(av:tZ ((84,.mt a (.list (acc++(if ax then mN ks m n else []).map dR++(if bH then n0 ks m n else []).map dR)))::ky f m n ks same ax bH h c T) k):Ex ((84,.mt a (.list acc))::ky f m n ks same ax bH h c T) k:=by
 have hm:=ho.hm
 have z:=(C2 (ks:=ks) hm ho.hn).2.1
 have kN:(if ax then mN ks m n else []).length<=4:=by split;exact z;exact Nat.zero_le _
 have pP:=YX (ho:=ho) (acc:=acc++(if ax then mN ks m n else []).map dR) (by rw[List.length_append,List.length_map];lia) av
 unfold Ex
 cases ax with
 | false=>rw[if_neg Bool.false_ne_true,List.map_nil,List.append_nil] at pP;exact pP
 | true=>
  rw[if_pos rfl] at pP
  refine dI (d0 (n:=m) (by exact bO ‹_›)) ?_
  show fJ _ _ _ (eR 0 m 1) _ _ _
  rw[hk]
  refine oO (e:=fun i:Nat=>D.int (i:Int)) (g:=fun i=>dR ((some i,none),fQ ks i)) (p:=fun i=>!decide (fQ ks i∈(List.range n).map (hh ks))) (List.range m) [] (by exact List.length_nil.symm▸List.length_range.symm▸(eN ‹_›)) (fun i aN K aZ=>?_) (fun i aN Z K aZ=>?_) ⟨rfl,?_,?_⟩
  ·exact b6 (q0 (List.mem_range.mp aN) (by exact bO ‹_›)) (il (mem_keys (fun i=>nO ho.all _) (fun i=>nO ho.all _)) aZ)
  ·exact b6 (q0 (List.mem_range.mp aN) (by exact bO ‹_›)) aZ
  ·unfold mN at z
   rw[List.length_map] at z
   simp only[List.nil_append,List.length_map];lia
  ·unfold mN at pP
   rw[List.map_map] at pP;exact pP
theorem YZ{f:V}{m n:Nat}{ks:List Key}{same ax bH:Bool}{h c:V}{T:D}{k:dM->aO->Prop}(ho:iy m n ks)(h0:ks≠[])(av:∀a,tZ ((84,.mt a (.list ((q9 ks m n ax bH).map dR)))::ky f m n ks same ax bH h c T) fun a8 ρ=>match a8 with|.cx=>t2 ρ k|.dv v=>k (.dv v) ρ):t4 (ky f m n ks same ax bH h c T) k:=by
 have hm:=ho.hm
 have hn:=ho.hn
 have rR:0<ks.length:=List.length_pos_iff.mpr h0
 have z:=(C2 (ks:=ks) hm hn).1
 unfold t4
 refine fC (p:=(ks.length:Int)=0) (fun q=>(by omega)) fun q=>dI (d0 (n:=m) (by exact bO ‹_›)) ?_
 show fJ _ _ _ (eR 0 m 1) _ _ _
 rw[hk]
 refine Ca (e:=fun i:Nat=>D.int (i:Int)) (g:=fun i=>(((List.range n).filter fun j=>decide (fQ ks i=hh ks j)).map fun j=>dR ((some i,some j),fQ ks i))) 1000 (List.range m) [] ?_ (fun i aN acc Ng K aZ=>dI (d0 (n:=n) (by exact bO ‹_›)) ?_) fun a=>?_
 ·have:=qP (g:=fun i=>((List.range n).filter fun j=>decide (fQ ks i=hh ks j)).map fun j=>dR (((some i,some j):c3),fQ ks i)) (m:=n) (List.range m) fun i Z=>by
   rw[List.length_map]
   have:=List.length_filter_le (fun j=>decide (fQ ks i=hh ks j)) (List.range n)
   rw[List.length_range] at this;exact this
  rw[List.length_range] at this
  have ai:n * m<=4 * 4:=Nat.mul_le_mul hn hm
  rw[List.length_nil];lia
 ·have aN:=List.mem_range.mp aN
  show fJ _ _ _ (eR 0 n 1) _ _ _
  rw[hk]
  refine oO (e:=fun j:Nat=>D.int (j:Int)) (g:=fun j=>dR ((some i,some j),fQ ks i)) (p:=fun j=>decide (fQ ks i=hh ks j)) (List.range n) acc (by rw[List.length_range];lia) (fun j bL K aZ=>?_) (fun j bL Z K aZ=>?_) aZ
  ·exact b6 (q0 aN (by exact bO ‹_›)) (b6 (q0 (List.mem_range.mp bL) (by exact bO ‹_›)) (il (YV (nO ho.all _) (nO ho.all _)) aZ))
  ·exact b6 (q0 aN (by exact bO ‹_›)) aZ
 ·refine YY ho ?_ ?_
  ·have e:((q8 ks m n).map dR).length<=50:=by rw[List.length_map];exact bO ‹_›
   unfold q8 at e
   rw[List.map_flatMap] at e
   simp only[List.map_map] at e
   exact e
  ·have:=av a
   unfold q9 at this
   rw[List.map_append,List.map_append] at this
   unfold q8 at this
   rw[List.map_flatMap] at this
   simp only[List.map_map] at this
   exact this
end
section
variable {w:World} {B:bC w}
noncomputable def oC(fy:Addr)(F:List D):Nat->V|0=>.mt fy (.list F)|_+1=>.aX (.list F)
noncomputable def pC(lv:md):List D:=lv.map fun p=>cq p.2
theorem K9{c:cG}{a:List Str}(h:c.kd=.c1 a):ce c=rk a c.ae:=by
 obtain⟨kd,ae⟩:=c
 subst h;rfl
theorem WK(a:List Str)(t:Str):a.any (·==t)=a.contains t:=by rw[Bool.eq_iff_iff];simp
theorem WL{a b z:eQ}(h:lw a b z):z.fT=a.fT:=by cases h <;> rfl
theorem LQ{a b z:eQ}(h:lw a b z):a.fT=b.fT:=by cases h <;> rfl
theorem C3{m n:Nat}{q:Key}(h:hY m n q):(d2 q).1=q.1.kd.fT/\(d2 q).2.length<=200:=by
 have bL:=LQ h.bL
 have aF:=fun a b=>DT h (a:=a) (b:=b)
 cases e:q.1.kd with
 | c1 a=>
  replace bL:=e▸bL
  cases ak:q.2.1.kd with
  | c1 b=>rw[(aF a b e ak).1];exact⟨rfl,(aF a b e ak).2⟩
  | _=>replace bL:=ak▸bL;injection bL
 | _=>unfold d2;exact e.symm▸(⟨rfl,Nat.zero_le _⟩)
theorem WM{α:Type}{x:Nat}{T:db}{f8:bG}{e g:α->D}{ρ:aO}{k:List D->aO->Prop}(xs:List α)(acc:List D)(a5:acc.length+xs.length<=10000)(eX:∀a∈xs,∀K:Bool->aO->Prop,K true ((x,.aX (e a))::ρ)->T ((x,.aX (e a))::ρ) K)(dw:∀a∈xs,∀K:D->aO->Prop,K (g a) ((x,.aX (e a))::ρ)->f8 ((x,.aX (e a))::ρ) K)(av:k (acc++xs.map g) ρ):fJ x T (cy f8) (xs.map e) acc ρ k:=
 oO (p:=fun Z=>true) xs acc a5 eX (fun a h Z=>dw a h) (by exact(List.filter_eq_self.mpr fun Z Z=>rfl).symm▸av)
theorem Vp{fy pQ a:Addr}{m n i:Nat}{ks:List Key}{same ax bH:Bool}{h c f:V}{T:D}{R acc:List D}{k:dM->aO->Prop}(ho:iy m n ks)(aN:i<ks.length)(hf:f=.mt fy (.list ((hZ ks).map .bool))∨f=.aX (.list ((hZ ks).map .bool)))(a5:acc.length<=10)(av:∀x:D,k .cx ((82,.aX x)::(4,.aX (.int i))::(48,.mt pQ (.list (acc++[cq (d2 ks[i]).2])))::(84,.mt a (.list R))::ky (.aX (.list ((hZ ks).map .bool))) m n ks same ax bH h c T)):Nc ((4,.aX (.int i))::(48,.mt pQ (.list acc))::(84,.mt a (.list R))::ky f m n ks same ax bH h c T) k:=by
 have hw:=ho.len
 have q:=ho.all ks[i] (List.getElem_mem _)
 have bL:=LQ q.bL
 have a8:item (.list ((hZ ks).map .bool)) (.int i)=some (.bool ks[i].1.kd.fT):=h1 (by exact jc ‹_› ‹_›) (by unfold hZ;rw[List.getElem?_map,List.getElem?_map,List.getElem?_eq_getElem aN];rfl)
 cases tl:ks[i].1.kd.fT with
 | false=>
  replace a8:=tl▸a8
  have aP:d2 ks[i]=(false,[]):=by
   unfold d2
   cases e:ks[i].1.kd <;> first|rfl|(replace tl:=e▸tl;contradiction)
  rw[aP] at av
  rcases hf with rfl|rfl <;> exact fun aiJ=>dI (d0 (n:=2) (by decide)) (b6 a8 (b6 a8 (ap (by exact bO ‹_›) (av _))))
 | true=>
  rw[tl] at a8 bL
  obtain⟨x,ex⟩:∃a,ks[i].1.kd=.c1 a:=by
   cases e:ks[i].1.kd with
   | c1 a=>exact⟨a,rfl⟩
   | _=>replace tl:=e▸tl;contradiction
  obtain⟨y,gU⟩:∃b,ks[i].2.1.kd=.c1 b:=by
   cases e:ks[i].2.1.kd with
   | c1 a=>exact⟨a,rfl⟩
   | _=>replace bL:=e▸bL;injection bL
  have ul:x.length<=100:=by have:=q.aE.kd;rw[ex] at this;exact this.2.2
  have xW:y.length<=100:=by have:=q.bj.kd;rw[gU] at this;exact this.2.2
  have nu:item (.list (h6 (cY ks) (em 10 m))) (.int i)=some (rk x ks[i].1.ae):=by
   refine(K9 ex)▸?_
   rw[oR (by unfold cY;rw[List.length_map];exact aN) (by unfold cY;rw[List.length_map];exact bO ‹_›),List.getD_eq_getElem?_getD,List.getElem?_eq_getElem (by unfold cY;rw[List.length_map];exact aN)];unfold cY;rw[List.getElem_map];rfl
  have Gm:item (.list (h6 (c4 ks) (em 20 n))) (.int i)=some (rk y ks[i].2.1.ae):=by
   refine(K9 gU)▸?_
   rw[oR (by unfold c4;rw[List.length_map];exact aN) (by unfold c4;rw[List.length_map];exact bO ‹_›),List.getD_eq_getElem?_getD,List.getElem?_eq_getElem (by unfold c4;rw[List.length_map];exact aN)];unfold c4;rw[List.getElem_map];rfl
  have aP:cq (d2 ks[i]).2=.list (x.map .str++(y.filter fun t=>!x.any (·==t)).map .str):=by
   unfold d2;refine ex.symm▸gU.symm▸?_
   show cq (x++_)=_
   refine(show (fun t=>!x.contains t)=fun t=>!x.any (·==t) by funext t;rw[WK]).symm▸?_
   unfold cq;rw[List.map_append]
  rw[aP] at av
  have aki:=List.length_filter_le (fun t=>!x.any (·==t)) y
  rcases hf with rfl|rfl <;> exact fun aiJ=>dI (d0 (n:=2) (by decide)) (b6 a8 (b6 nu (WM (e:=D.str) (g:=D.str) x [] (by exact eN ‹_›) (fun Z Z Z aZ=>aZ) (fun Z Z Z aZ=>aZ) ⟨rfl,by simp only[List.nil_append,List.length_map,List.length_nil];exact eN ‹_›,b6 a8 (b6 Gm (oO (e:=D.str) (g:=D.str) (p:=fun t=>!x.any (·==t)) y [] (by exact eN ‹_›) (fun t ht K aZ=>q4 CP aZ) (fun Z Z Z Z aZ=>aZ) ⟨rfl,by simp only[List.nil_append,List.length_map];lia,ap (by exact bO ‹_›) (av _)⟩))⟩)))
theorem LR{z:eQ}{t u:bY}(ht:fF z t)(de:fF z u):jG (cT t) (cT u):=by
 cases z <;> cases t <;> cases u <;> first|exact ht.elim|exact de.elim|exact .nn|exact .AA _|exact .ns _|exact .z8 _|exact .sn _|exact .ss _ _|exact .ii _ _ (vI ht) (vI de)
theorem Cw{m n:Nat}{q:Key}(h:hY m n q){t u:bY}(ht:fF q.2.2 t)(de:fF q.2.2 u):jG (pe (d2 q).1 (d2 q).2 t) (pe (d2 q).1 (d2 q).2 u):=by
 have e:∀l t,pe false l t=cT t:=fun l t=>by cases t <;> rfl
 have hf:=(C3 h).1
 cases a5:(d2 q).1 with
 | false=>rw[e,e];exact LR ht de
 | true=>
  rw[a5] at hf
  have:q.2.2.fT=true:=(WL h.bL).trans hf.symm
  generalize q.2.2=z at ht de this
  cases z with
  | c1 lv=>cases t <;> cases u <;> first|exact ht.elim|exact de.elim|exact .nn|exact .AA _|exact .z8 _|exact .ii _ _ (by exact Int.natCast_nonneg _) (by exact Int.natCast_nonneg _)
  | _=>contradiction
theorem WN{m n:Nat}{ks:List Key}{b ax bH:Bool}(ho:iy m n ks)(h0:ks≠[]):LsOk (ld b ks.length) (ks.map d2) ((iU ks m n ax bH).map (rowOf ks)):=by
 have hw:ks.length=1∨ks.length=2:=by have:=List.length_pos_iff.mpr h0;have:=ho.len;lia
 have ok:=fun q (aL:q∈ks) p=>(kc (ho.all q aL) p).1
 refine⟨by unfold ld;split;decide;split <;> decide,fun r aA=>?_,fun a bp b aS=>?_⟩
 ·refine aW (List.mem_map.mp aA) fun p Z l8=>?_
  subst l8
  refine⟨by rw[List.length_map];lia,by rw[List.length_map];exact vL ks p,by rw[List.length_map];lia,nO ho.all p,fun i h aC=>?_,fun x aE=>?_⟩
  ·rw[List.length_map] at h
   show FJ ((ks.map d2)[i]) ((ks.map fun q=>gP q p)[i]'(by rw[List.length_map];exact h))
   rw[List.getElem_map,List.getElem_map]
   exact(LL (ho.all _ (List.getElem_mem h)) (ok _ (List.getElem_mem h) p)).key
  ·refine aW (List.mem_map.mp aE) fun q aL xB=>?_
   subst xB
   have:=(C3 (ho.all q aL)).2
   exact bO ‹_›
 ·refine aW (List.mem_map.mp bp) fun p Z wq=>?_
  subst wq
  refine aW (List.mem_map.mp aS) fun r Z wh=>?_
  subst wh
  unfold ld
  split
  ·skip
   rcases hw with h|h
   ·refine cQ (wn h) fun q wk=>?_
    subst wk
    exact .one (Cw (ho.all q (.head _)) (ok q (.head _) p) (ok q (.head _) r))
   ·refine iY (zp h) fun q mw aeP=>?_
    subst aeP
    exact .two (Cw (ho.all q (.head _)) (ok q (.head _) p) (ok q (.head _) r)) (Cw (ho.all mw (.tail _ (.head _))) (ok mw (.tail _ (.head _)) p) (ok mw (.tail _ (.head _)) r))
  ·split
   ·rename_i h
    refine cQ (wn h) fun q aeQ=>?_
    subst aeQ
    exact .one (LR (ok q (.head _) p) (ok q (.head _) r))
   ·exact .one (.ss _ _)
theorem adh{a pQ:Addr}{m n:Nat}{ks:List Key}{same ax bH:Bool}{h c:V}{T:D}{k:dM->aO->Prop}(ho:iy m n ks)(h0:ks≠[])(av:∀ρ,FS m n ks same ax bH T ((pg ks m n ax bH).map dR) ρ->k .cx ρ):
  FN ((48,.mt pQ (.list (pC (ks.map d2))))::(84,.mt a (.list ((q9 ks m n ax bH).map dR)))::ky (.aX (.list ((hZ ks).map .bool))) m n ks same ax bH h c T) k:=by
 have hw:ks.length=1∨ks.length=2:=by have:=List.length_pos_iff.mpr h0;have:=ho.len;lia
 have eg:=LO (ks:=ks) (ax:=ax) (bH:=bH) ho.hm ho.hn
 have aA:=WN (b:=ax||bH) (ax:=ax) (bH:=bH) ho h0
 have z:((iU ks m n ax bH).map (rowOf ks)).length<=190:=by rw[List.length_map];exact bO ‹_›
 rw[(show pg ks m n ax bH=nY (gO (ld (ax||bH) ks.length) (ks.map d2)) ((iU ks m n ax bH).map (rowOf ks)) from by cases ks with | nil=>exact absurd rfl h0 | cons q ks=>rfl)] at av
 rw[Vn ho.all hw]
 have AB:[D.list ((hZ ks).map .bool),.list (pC (ks.map d2)),.int ks.length]=zg 0 (ks.map d2):=by
  show _=[D.list ((ks.map d2).map fun p=>.bool p.1),.list ((ks.map d2).map fun p=>cq p.2),.int (ks.map d2).length]
  rw[List.length_map,List.map_map]
  congr 2
  refine List.map_map.symm▸?_
  exact List.map_congr_left fun q aL=>by show D.bool _=D.bool _;rw[(C3 (ho.all q aL)).1]
 have PH:∀{K:D->Prop},ld (ax||bH) ks.length=0->K (.list ((nY (gO (ld (ax||bH) ks.length) (ks.map d2)) ((iU ks m n ax bH).map (rowOf ks))).map dR))->mZ [.list (((iU ks m n ax bH).map (rowOf ks)).map dR),.fn 0 [.list ((hZ ks).map .bool),.list (pC (ks.map d2)),.int ks.length]] K:=fun e aZ=>by
  rw[AB]
  rw[e] at aA aZ
  exact DS aA z aZ
 unfold FN
 cases ax with
 | true=>exact PH rfl ⟨rfl,av _ (.cf _ _ _ _)⟩
 | false=>
  cases bH with
  | true=>exact PH rfl ⟨rfl,av _ (.cf _ _ _ _)⟩
  | false=>
   refine fC (p:=(ks.length:Int)=1) (fun q=>?_) fun q=>?_
   ·have e:ld (false||false) ks.length=1:=by unfold ld;rw[if_neg (by decide),if_pos (by lia)]
    rw[e] at aA av
    exact DS (j:=1) aA z ⟨rfl,av _ (.aX _ _ _ _)⟩
   ·have e:ld (false||false) ks.length=2:=by unfold ld;rw[if_neg (by decide),if_neg (by lia)]
    rw[e] at aA av
    exact DS (j:=2) aA z ⟨rfl,av _ (.aX _ _ _ _)⟩
theorem adi{a fy:Addr}{m n:Nat}{ks:List Key}{same ax bH:Bool}{h c:V}{T:D}{k:dM->aO->Prop}(ho:iy m n ks)(h0:ks≠[])(av:∀ρ,FS m n ks same ax bH T ((pg ks m n ax bH).map dR) ρ->k .cx ρ):
  tZ ((84,.mt a (.list ((q9 ks m n ax bH).map dR)))::ky (.mt fy (.list ((hZ ks).map .bool))) m n ks same ax bH h c T) k:=by
 have hw:=ho.len
 have rR:0<ks.length:=List.length_pos_iff.mpr h0
 unfold tZ
 intro pQ
 refine dI (d0 (n:=ks.length) (by exact bO ‹_›)) (lL ?_)
 refine yB (fun i=>(48,.mt pQ (.list (pC ((ks.map d2).take i))))::(84,.mt a (.list ((q9 ks m n ax bH).map dR)))::ky (oC fy ((hZ ks).map .bool) i) m n ks same ax bH h c T) ks.length (fun i aN K R aZ=>Vp ho aN (by cases i;exact .inl rfl;exact .inr rfl) (by unfold pC;rw[List.length_map,List.length_take,List.length_map];lia) fun x=>?_) ?_
 ·exact(show pC ((ks.map d2).take (i+1))=pC ((ks.map d2).take i)++[cq (d2 ks[i]).2] by
   unfold pC;rw[List.take_add_one,List.getElem?_map,List.getElem?_eq_getElem aN,List.map_append];rfl)▸aZ
 ·have:=adh (a:=a) (pQ:=pQ) (h:=h) (c:=c) (T:=T) (same:=same) ho h0 av
  refine(show (ks.map d2).take ks.length=ks.map d2 by exact(List.length_map (f:=d2) (as:=ks))▸List.take_length.symm▸rfl).symm▸?_
  match e:ks.length,rR with
  | w+1,Z=>exact this
end
section
variable {w:World} {B:bC w}
theorem Vq{asg:D->aO->(aO->Prop)->Prop}{dr:List Nat}{cO:bh}{ρ:aO}{k:dM->aO->Prop}(n:Nat)(hs:∀i,i<n->∀(K:aO->Prop) (R:V->aO->Prop),K ρ->asg (.int (i:Nat)) ρ fun aY=>cO aY fun a8 ρ'=>match a8 with|.cx=>dO (kl dr ρ') (K (gb dr ρ'))|.dv v=>R v ρ')(av:k .cx ρ):im asg dr cO ((List.range n).map fun i:Nat=>D.int (i:Int)) ρ k:=yB (fun Z=>ρ) n hs av
noncomputable def pD(same:Bool):List Str:=if same then ["a.x","a.y"] else ["a","b"]
theorem adj{s:Bool}{d:D}{k:D->Prop}(h:f2 c7 d (cq (pD s)) k):jj s (f2 c7 d (.list [.str "a.x",.str "a.y"]) k) (f2 c7 d (.list [.str "a",.str "b"]) k):=by cases s <;> exact h
theorem TX:∀w,w<=2->∀s,sR (dm w) (hU true) (hU s)=dm w++pD s/\∀v∈(dm w++pD s).map bY.s,rH v:=by
 intro w hw s
 refine bS ((show ∀w∈[0,1,2],∀s,sR (dm w) (hU true) (hU s)=dm w++pD s/\∀t∈dm w++pD s,PyData.strOk t=true from by decide +kernel) w (by simp;lia) s) fun aw ai=>?_
 refine⟨aw,fun v aP=>?_⟩
 refine aW (List.mem_map.mp aP) fun t ht l8=>?_
 subst l8
 exact ai t ht
theorem zE{ts:List bY}{l:List D}(e:l=ts.map cT)(h:∀v∈ts,rH v):gf (.list l) (.list l)=some false:=by subst e;exact(Jx h).2
theorem aeR{ts:List bY}{l:List D}(e:l=ts.map cT)(h:∀v∈ts,rH v):ck (.list l) (.list l)=some true:=by subst e;exact(Jx h).1
noncomputable def lf(b:Nat):Option Nat->bY|none=>.na|some i=>.i ((b:Int)+i)
theorem La{b m:Nat}{l:List (Option Nat)}(h:∀i,some i∈l->i<m):((em b m).pick l).ae.map (dg .int)=(l.map (lf b)).map cT:=by
 refine List.map_map.symm▸?_
 rw[List.map_map]
 refine List.map_congr_left fun o ho=>?_
 cases o with
 | none=>rfl
 | some i=>
  show dg .int ((em b m).ae.getD i .na)=cT (lf b (some i))
  refine(yh _ _ (h i ho)).symm▸?_;rfl
theorem LU(b:Nat)(l:List (Option Nat)):∀v∈l.map (lf b),rH v:=fun v aP=>by
 refine aW (List.mem_map.mp aP) fun o Z xB=>?_
 subst xB
 cases o <;> trivial
theorem Nh{b:Nat}{o:Option Nat}{ρ:aO}{K:D->aO->Prop}{d:D}{j:Int}(e:item d (.int j)=some (g9 o))(aZ:K (cT (lf b o)) ((82,.aX d)::ρ)):
  dK (bl (ak (ag 82) (au (.int j)) (f2 item)) (au .none) (a6 ec)) (au .none) (ak (au (.int b)) (ak (ag 82) (au (.int j)) (f2 item)) (f2 c7)) ((82,.aX d)::ρ) K:=by
 cases o with
 | none=>exact b6 e aZ
 | some i=>exact b6 e (b6 e aZ)
theorem WO{m n:Nat}{q:Key}{Q:List c3}(h:hY m n q)(eg:Q.length<=24):(k4 Q q).Ok 5000:=by
 refine⟨?_,by unfold k4;rw[List.length_map];exact bO ‹_›,fun v aP=>?_⟩
 ·exact(LK (P:=[]) h (fun Z h=>nomatch h) (by decide)).kd
 ·refine aW (List.mem_map.mp aP) fun p Z wq=>?_
  subst wq
  exact(kc h p).1
theorem adk{m n:Nat}{ks:List Key}{same ax bH:Bool}{Q:List c3}{ρ:aO}{k:dM->aO->Prop}(ho:iy m n ks)(j2:∀p∈Q,gy m n p)(eg:Q.length<=24)(ud:FS m n ks same ax bH (wf ks m n same Q) ((Q.map (rowOf ks)).map dR) ρ)(av:∀ρ,(bT ρ 90=some (.mt 796 .tab)∨bT ρ 90=some (.mt 796 .k2))->k (.dv (.aX (.bool true))) ρ):t2 ρ k:=by
 have hw:=ho.len
 refine bS (TX ks.length hw same) fun oD fw=>?_
 have Nw:gf (.list ((sR (dm ks.length) (hU true) (hU same)).map .str)) (cq (dm ks.length++pD same))=some false:=by
  rw[oD];exact zE (ts:=(dm ks.length++pD same).map bY.s) (by rw[List.map_map];rfl) fw
 have aiK:c8 [.list ((Q.map (rowOf ks)).map dR)]=some (.int Q.length):=(kX (by rw[List.length_map,List.length_map];lia)).trans (by rw[List.length_map,List.length_map])
 have EA:gf (.list ((List.range Q.length).map fun i:Nat=>D.int (1+(i:Int)))) (.list ((List.range Q.length).map fun i:Nat=>D.int (1+(i:Int))))=some false:=zE (ts:=(List.range Q.length).map fun i:Nat=>.i (1+(i:Int))) (by exact List.map_map.symm▸rfl) (fun v aP=>by refine aW (List.mem_map.mp aP) fun i Z wh=>?_;subst wh;trivial)
 have aiL:c8 [.list ((k1 ks m n Q).map ce)]=some (.int (ks.length+2:Nat)):=by
  have:((k1 ks m n Q).map ce).length=ks.length+2:=by unfold k1;rw[List.length_map,List.length_append,List.length_map];rfl
  exact(kX (by lia)).trans (by rw[this])
 have Gp:([]:List D).length+(Q.map (rowOf ks)).length<=10000:=by rw[List.length_nil,List.length_map];exact eN ‹_›
 have col:∀i,(h:i<ks.length)->item (.list ((k1 ks m n Q).map ce)) (.int i)=some (ce (k4 Q ks[i])):=fun i h=>h1 (by lia) (by
  unfold k1;rw[List.getElem?_map,List.getElem?_append_left (by rw[List.length_map];exact h),List.getElem?_map,List.getElem?_eq_getElem h];rfl)
 have aeS:item (.list ((k1 ks m n Q).map ce)) (.int ks.length)=some (ce ((em 10 m).pick (jg Q))):=h1 (by lia) (by
  unfold k1;rw[List.getElem?_map,List.getElem?_append_right (by rw[List.length_map];exact Nat.le_refl _),List.length_map,Nat.sub_self];rfl)
 have aeT:item (.list ((k1 ks m n Q).map ce)) (.int ((ks.length:Int)+1))=some (ce ((em 20 n).pick (iX Q))):=by
  have:=h1 (l:=(k1 ks m n Q).map ce) (i:=ks.length+1) (d:=ce ((em 20 n).pick (iX Q))) (by exact hO ‹_›) (by
   unfold k1;rw[List.getElem?_map,List.getElem?_append_right (by rw[List.length_map];exact Nat.le_succ _),List.length_map,Nat.add_sub_cancel_left];rfl)
  exact this
 have ahD:∀i,(h:i<ks.length)->gf (.list ((k4 Q ks[i]).ae.map cT)) (.list ([]++(Q.map (rowOf ks)).map fun r=>cT (r.2.getD i .na)))=some false:=fun i h=>by
  have e:[]++(Q.map (rowOf ks)).map (fun r=>cT (r.2.getD i .na))=(k4 Q ks[i]).ae.map cT:=by
   unfold k4
   rw[List.nil_append,List.map_map,List.map_map]
   refine List.map_congr_left fun p Z=>?_
   show cT ((jS ks p).getD i .na)=cT (gP ks[i] p)
   unfold jS;rw[List.getD_eq_getElem?_getD,List.getElem?_map,List.getElem?_eq_getElem h];rfl
  refine e.symm▸?_
  refine zE rfl fun v aP=>?_
  refine aW (List.mem_map.mp aP) fun p Z aeU=>?_
  subst aeU
  exact Cv (kc (ho.all _ (List.getElem_mem h)) p).2
 have ex:((em 10 m).pick (jg Q)).ae.map (dg .int)=[]++(Q.map (rowOf ks)).map fun r=>cT (lf 10 r.1.1):=by
  rw[La fun i aN=>?_,List.nil_append,List.map_map,List.map_map]
  ·unfold jg;exact List.map_map
  ·obtain⟨⟨aH,aK⟩,bc,e⟩:=List.mem_map.mp aN
   have:=j2 _ bc
   dsimp only at e;subst e
   cases aK <;> simp only[gy] at this <;> lia
 have gU:((em 20 n).pick (iX Q)).ae.map (dg .int)=[]++(Q.map (rowOf ks)).map fun r=>cT (lf 20 r.1.2):=by
  rw[La fun i aN=>?_,List.nil_append,List.map_map,List.map_map]
  ·unfold iX;exact List.map_map
  ·refine aW (List.mem_map.mp aN) fun aeV bc e=>?_
   obtain⟨aH,aK⟩:=aeV
   have:=j2 _ bc
   dsimp only at e;subst e
   cases aH <;> simp only[gy] at this <;> lia
 have iY:gf (.list (((em 10 m).pick (jg Q)).ae.map (dg .int))) (.list ([]++(Q.map (rowOf ks)).map fun r=>cT (lf 10 r.1.1)))=some false:=by
  rw[ex];exact zE (ts:=(Q.map fun p=>p.1).map (lf 10)) (by rw[List.nil_append,List.map_map,List.map_map,List.map_map];rfl) (LU 10 _)
 have dc:ck (.list (((em 20 n).pick (iX Q)).ae.map (dg .int))) (.list ([]++(Q.map (rowOf ks)).map fun r=>cT (lf 20 r.1.2)))=some true:=by
  rw[gU];exact aeR (ts:=(Q.map fun p=>p.2).map (lf 20)) (by rw[List.nil_append,List.map_map,List.map_map,List.map_map];rfl) (LU 20 _)
 unfold t2
 cases ud
 all_goals
  refine adj (b6 (sD (by rw[(vK hw)];unfold pD;split <;> simp only[List.length_cons,List.length_nil] <;> exact sT ‹_›)) (il Nw ?_))
  refine dA aiK (dI (zy (n:=Q.length) (by lia)) (dA (yi (by lia)) (il EA (dA aiL (k0 (p:=((ks.length+2:Nat):Int)=(ks.length:Int)+2) (fun Z=>?_) fun q=>absurd (by rfl) q)))))
  refine dI (d0 (n:=ks.length) (by lia)) (lL (Vq ks.length (fun i aN K R aZ=>?_) ?_))
  ·have FR:=WO (ho.all _ (List.getElem_mem aN)) eg
   refine b6 (col i aN) (DQ FR (comp_map (e:=wT (k4 Q ks[i]).kd) (g:=cT) (k4 Q ks[i]).ae [] (by have:=FR.len;rw[List.length_nil];exact eN ‹_›) (fun v aP K aZ=>Mz (FR.ea v aP) aZ) (comp_map (e:=dR) (g:=fun r=>cT (r.2.getD i .na)) (Q.map (rowOf ks)) [] Gp (fun r aA K aZ=>?_) (il (ahD i aN) aZ))))
   refine aW (List.mem_map.mp aA) fun p Z Et=>?_
   subst Et
   exact b6 (item_tup (by lia) (by rw[List.getElem?_map,List.getD_eq_getElem?_getD,List.getElem?_eq_getElem (show i<(rowOf ks p).2.length from (vL ks p).symm▸aN)];rfl)) aZ
  ·refine b6 aeS (comp_map (e:=dR) (g:=fun r=>cT (lf 10 r.1.1)) (Q.map (rowOf ks)) [] Gp (fun r Z K aZ=>Nh rfl aZ) (il iY ?_))
   refine b6 aeT (comp_map (e:=dR) (g:=fun r=>cT (lf 20 r.1.2)) (Q.map (rowOf ks)) [] Gp (fun r Z K aZ=>Nh rfl aZ) (il dc (av _ ?_)))
   first|exact .inl rfl|exact .inr rfl
noncomputable def PI(ρ:aO):Prop:=bT ρ 90=some (.mt 796 .tab)∨bT ρ 90=some (.mt 796 .k2)
theorem Vr{s:List Int}{k:dM->aO->Prop}(hs:s.length<=63)(av:∀ρ,PI ρ->k (.dv (.aX (.bool true))) ρ):Cl (sN v7 Aa) q6 rm i7 n7 mZ pd mY [(9,.aX (.list (s.map .int))),(90,.mt 796 .tab)] k:=by
 rw[ac5]
 refine ac7 hs fun fx hJ fy m n ks l aF ho=>YN aF ho fun same l aF=>YQ aF ho (fun ax bH h c aw ai=>adf ho fun Q j2 eg aiM=>adg ho ?_) (av _ (.inl rfl))
 have fin:∀ρ,FS m n ks same ax bH (wf ks m n same Q) ((pg ks m n ax bH).map dR) ρ->t2 ρ k:=fun ρ ud=>adk ho j2 eg (aiM▸ud) av
 by_cases h0:ks=[]
 ·exact YW ho h0 fin
 ·exact YZ ho h0 fun a=>adi ho h0 fin
end
section
variable {w:World} {B:bC w} {g:G}
theorem adl{A:Around}{E:Value->Shared->Prop}{AC:Shared}{R:a7}{K:Value->Shared->Prop}{s:List Int}{xs:List Value}{a:Addr}(hs:s.length<=63)(aN:∀g:G,bE w g (s.map .int) xs)(eK:A.frames=some [])(aI:dk 20 A)(S:bx B g ([(796,tabObj #[])]++((a,lst xs)::R)) AC.heap)(k:∀ao ms' aC t' ps,Ext g ao->bx B ao (ms'++((a,lst xs)::R)) aC->aC.get? 796=some (tabObj ps)->K (.bool true) {AC with heap:=aC,toks:=t'}):
  codeAny (model bD w) A (.call (.ref gJ.a) ⟨[.ref a],[]⟩) (fun r bP=>match r with|.ok (.ret v)=>K v bP|.ok _=>False|.error e=>E e bP) AC:=by
 refine U4 (n:=19) (Q:=fun a8 ρ=>a8=.dv (.aX (.bool true))/\PI ρ) eK aI (fun env ok eg=>by exact Yp (n:=17) (YF.le (by decide)) (acY.le (by decide)) (KY.le (by decide)) (ac2.le (by decide)) (ac4.le (by decide)) (ac1.le (by decide)) (acX.le (by decide)) (Rr.le (by decide)) ok eg) aN hs (fun pm s l S=>.of_eq (by kernel_rfl)) (Vr hs fun ρ h=>⟨rfl,h⟩) S fun v ao ms' aC t' cv bZ=>?_
 refine cps fun ed bR=>?_
 obtain⟨ex,a8,ρ',vs',bu,hf,av,eX⟩:=cv
 subst av
 refine bR ?_
 clear bR
 subst hf
 rcases eX with eX|eX
 ·refine cps fun ed bR=>?_
  refine fq (gV bu eX) fun u m₁ m₂ aD ak bz Z=>?_
  refine fW ak fun Z Z adn=>?_
  subst adn
  refine bR ?_
  clear bR
  exact k ao ms' aC t' #[] ex bZ (bZ.own _ (List.mem_append_left _ (bz.mem_iff.mpr (.head _))))
 ·refine cps fun ed bR=>?_
  refine fq (gV bu eX) fun u m₁ m₂ aD ak bz Z=>?_
  refine fW ak fun Z Z ado=>?_
  obtain⟨ps,rfl⟩:=ado
  refine bR ?_
  clear bR
  exact k ao ms' aC t' ps ex bZ (bZ.own _ (List.mem_append_left _ (bz.mem_iff.mpr (.head _))))
end
theorem Jy{w:World}{g:G}:∀{ae:List Value} {is:List Int},IntsAre ae is->bE w g (is.map D.int) ae
 | _,_,.nil=>rfl
 | _,_,.cons i t r=>dW _ _ rfl ⟨t,rfl⟩ (Jy r)
theorem Ux:dk 20 callerA:=⟨rfl,by decide,by decide⟩
noncomputable def aiN(h:Heap)(L:Addr):G:=fun a=>((hideAll h [796,L]).get? a).map fun o=>Eq o
theorem ahE{p:Program}{loose:List Str}{mean:ExcName->Option Value}{w:World}{mg nc:Str->Option Value}{h:Heap}{L:Addr}{ae:List Value}(eg:h.get? L=some (lst ae))(T:Top p loose mean mg nc h)(S:rc w h mg):
  bx (Oo (w:=w) eg T S) (aiN h L) ([(796,tabObj #[])]++((L,lst ae)::[])) h:=by
 have kn:L≠796:=by rintro rfl;cases eg.symm.trans S.tab
 refine⟨fun a o e=>?_,fun a P e=>?_,fun q aL=>?_,fun q aL=>?_,?_⟩
 ·show ((hideAll h [796,L]).get? a).map _=_
  rw[show (hideAll h [796,L]).get? a=some o from e];rfl
 ·refine aW (Option.map_eq_some_iff.mp e) fun o ho ru=>?_
  subst ru
  exact⟨o,of_hideAll _ ho,rfl⟩
 ·simp only[List.cons_append,List.nil_append,List.mem_cons,List.not_mem_nil,or_false] at aL
  rcases aL with rfl|rfl
  ·exact S.tab
  ·exact eg
 ·have:(hideAll h [796,L]).get? q.1=none:=hideAll_none _ (by
   simp only[List.cons_append,List.nil_append,List.mem_cons,List.not_mem_nil,or_false] at aL ⊢
   rcases aL with rfl|rfl
   ·exact .inl rfl
   ·exact .inr rfl)
  show ((hideAll h [796,L]).get? q.1).map _=none
  rw[this];rfl
 ·simp[Ne.symm kn]
set_option tactic.hygienic true in
theorem WP{q:Program}{loose:List Str}{XP:(Str->Option Value)->Heap->Prop}{d:DefRec}{ahF:List (Str×Expr)}(hn:d.name="law"):
  WalkO q loose XP hook.says PySem.Challenge.rw_nz0525_01.row.toRowW d ahF fun f ae=>PySem.call f ae:=by
 intro w AC eC mg nc G Y fa o pm cd doc eO akj ho hd jM kF FT cR args vals as aeW aeX ahG ahH ahI
 wrow_args aeW aeX ahG ahH ahI
 rename_i is _ _ _ _ _ _ _ L ae _ eg _ uq _ ow _ hlen _
 refine MG fun ajW ajX aeY ajl=>?_
 refine cQ Y fun m S=>?_
 have T:=G.T
 cases V9 S.ns T.g
 replace FT:=hn▸FT
 cases FT.symm.trans (S.nm _ DA)
 have FU:eC.heap.get? L=some (lst ae):=by
  replace uq:Well w.params eC.heap (.ref L) (.list (ofPys (is.map PyData.int))):=uq
  cases uq with
  | list aw ai=>
   rename_i ws
   refine eT eg fun bK hR i0 D7=>?_
   obtain⟨n,fj⟩:=D7
   cases aw.symm.trans hR
   injection fj with aD ak
   have:ws=ae:=by simpa using congrArg Array.toList aD
   rw[aw,this]
 refine wpAny_call (adl (B:=Oo FU T S) (s:=is) (by lia) (fun g=>Jy ow) rfl Ux (ahE FU T S) fun ao ms' aC t' ps ex bZ Ni=>?_)
 refine aeY _ _ ?_
 refine EH (.inl ⟨.bool true,.bool true,[],rfl,raisesW_false (fun Z h=>nomatch h),.bool true,by wrow_post,fun Z=>⟨.nil,fun Z h=>nomatch h⟩⟩) ⟨fun b f7 e=>?_,fun b f7 e=>?_⟩ rfl (.of_eq cR)
 ·by_cases aw:b=796
  ·subst aw
   cases S.tab.symm.trans e
   refine .inr (.inl ⟨pj 798 _ _ (S.K 798 _ (by rfl)) rfl rfl rfl,rfl,#[],ps,rfl,by rw[Ni];simp[tabObj]⟩)
  ·by_cases ai:b=L
   ·subst ai
    cases FU.symm.trans e
    exact .inl (bZ.own (b,lst ae) (by simp))
   ·exact .inl (bZ.stays _ _ (qK e aw ai))
 ·by_cases aw:b=796
  ·subst aw;exact⟨_,Ni⟩
  ·by_cases ai:b=L
   ·subst ai;exact⟨_,bZ.own (b,lst ae) (by simp)⟩
   ·exact⟨_,bZ.stays _ _ (qK e aw ai)⟩
end Nz.Internal
open PySem PySem.W PyProof.Rows
theorem PySem.Challenge.cw_nz0525_01_holds : PySem.Challenge.rw_nz0525_01.Holds := by
 refine holds_law Nz.Internal.MF fun MF=>?_
 exact holds_open (q:=Nz.Internal.lj) (loose:=Nz.Internal.mF) (Xt:=Nz.Internal.tA) (XP:=XL Nz.Internal.lj []) (Yf:=Nz.Internal.hook.obs) (Ya:=Nz.Internal.hook.val) (YP:=Nz.Internal.hook.says) (N:=9000) Nz.Internal.left Nz.Internal.hook.of Nz.Internal.hook.keeps (fun s e=>xl_of s (Bool.and_eq_true_iff.mp e).1) XL.keeps (by rfl) (by rfl) (by rfl) (fun s e=>recFacts_of (Bool.and_eq_true_iff.mp e).2) (by rfl) (by first|assumption|decide +kernel) (by decide +kernel) ⟨rfl,rfl,rfl,rfl,rfl,by decide +kernel⟩ (by w_witness2) (Nz.Internal.WP rfl)
