import PyProof.Rows.All
import OpenK.KLine
import KE.KIsAll
import KE.KRevSl
import KE.KRevIter
import KE.KDictOf
import KE.KDictList
import KE.KSortTup
import PySem.Challenge.RW_sm0034_01
set_option Elab.async false
set_option linter.all false
set_option autoImplicit true
set_option genSizeOf false
set_option genInjectivity false
set_option tactic.hygienic false
set_option compiler.extract_closed false
set_option maxRecDepth 100000
set_option maxHeartbeats 0
open Array renaming getD_eq_getD_getElem?->dJ,getElem?_eq_getElem->d8,length_toList->ew,mem_toList_iff->eU,toList->fT,getElem?_toList->gv,size_append->iB,mem_of_getElem?->iL,perm_iff_toList_perm->iM
open Bool renaming and_eq_true->aN,or_eq_true->bC,not_eq_true'->cM,and_true->dY,eq_false_iff->fh,eq_iff_iff->fC,bne_false->fV,bne_true->fX,false_eq_true->gy,not_not->gD,beq_eq_decide_eq->gZ,or_eq_false_iff->iu,and_eq_false_iff->iO,and_eq_true_iff->iP
open Classical renaming propDecidable->fU
open Decidable renaming not_not->iG
open Eq renaming refl->ez
open Exists renaming elim->ay
open ForInStep renaming yield->cB
open Int renaming ofNat_lt->aS,ofNat_le->cF,fmod->cI,le_trans->dD,lt_of_le_of_lt->dX,fmod_nonneg_of_pos->eA,natCast_nonneg->eF,le_of_lt->eH,not_lt->eM,lt_trans->fH,lt_or_lt_of_ne->fK,fmod_lt_of_pos->gE,toNat_of_nonneg->gJ,le_of_lt_add_one->gP,natAbs_lt_natAbs_of_nonneg_of_lt->iT
open List renaming mem_cons->aB,length_map->aC,length_append->aE,mem_append->aH,all_eq_true->aI,mem_singleton->aJ,mem_map->aQ,getElem?_eq_getElem->aR,not_mem_nil->aU,map_append->aV,range->aX,length_cons->aZ,replicate->bq,mem_cons_of_mem->bu,nodup_cons->bw,lookup_cons->bB,mem_append_left->bD,mem_cons_self->bL,size_toArray->bM,nil_append->bN,append_assoc->bQ,map_cons->bT,append_nil->bU,length_filter_le->bV,cons_append->bW,filter_append->b8,getElem?_eq_none->cy,nodup_append->cA,mem_filter->cC,toArray->cK,lookup->cN,getElem?_map->cQ,getElem?_eq_some_iff->cY,getElem?_toArray->cZ,pairwise_cons->c5,any_eq_true->c9,drop->dg,getElem_mem->dj,length_nil->dw,flatMap_cons->dz,nodup_nil->dI,isEmpty_iff->dR,getD_eq_getElem?_getD->dS,map->dU,foldl->dZ,reverse_cons->d9,mem_flatMap->eB,append_toArray->eT,map_map->eX,getElem?_eq_none_iff->eY,forIn_cons->eZ,filterMap_cons->fj,getElem?_append_right->fk,filter->fu,pairwise_map->fy,length_reverse->fB,pairwise_append->fE,getElem?_append_left->fR,any_eq_false->fZ,length->gf,filter_eq_self->gm,mem_of_getElem?->gp,filter_eq_nil_iff->gq,drop_eq_getElem_cons->gw,getElem?_range->gA,append_cancel_left->gC,eq_nil_iff_forall_not_mem->gF,append_of_mem->gG,idxOf_cons->gH,length_modify->gU,getElem?_modify->gW,getElem?_concat_length->gX,take_of_length_le->iw,eq_nil_of_length_eq_zero->iA,findIdx?_cons->iD,length_filterMap_le->iE,zip_nil_right->iH,getElem?_drop->iK,drop_of_length_le->iN,set_eq_of_length_le->iQ,length_eq_zero_iff->iR,reverse_reverse->iS,length_singleton->iU,filterMap_append->iV,mem_append_right->iW,take_succ_cons->iX
open Nat renaming le_trans->ah,beq->aj,le_refl->ak,le_of_eq->aq,lt_of_le_of_lt->av,lt_of_lt_of_le->aA,le_of_lt->aD,add_le_add_left->aF,le_add_right->aG,add_le_add->aK,succ_le_succ->aL,lt_irrefl->aM,le_of_lt_succ->aO,eq_of_beq_eq_true->aP,add_le_add_right->aT,le_succ->aW,blt->aY,lt_add_of_pos_right->bf,zero_le->bx,add_left_cancel->bz,ble->bA,mul_le_mul_left->bE,lt_succ_self->bG,add_assoc->bH,ne_of_lt->bI,succ_pos->bO,lt_trans->bP,le_add_left->bR,add_comm->bX,beq_refl->bZ,le_of_ble_eq_true->b5,mul_le_mul_right->b9,lt_succ_of_le->cg,lt_of_succ_lt_succ->cj,succ_add->cu,le_of_succ_le->cw,not_le_of_gt->cD,zero_lt_of_lt->cG,lt_of_lt_of_eq->cR,sub_add_cancel->cS,zero_add->cU,succ_ne_self->cV,sub_lt->cW,lt_of_le_of_ne->c6,le_succ_of_le->c7,ble_eq->dm,add_mul->dB,le_sub_one_of_lt->dF,le_of_not_lt->dG,not_lt_zero->dW,le_of_succ_le_succ->eE,ne_of_gt->eG,sub_le->eN,add_sub_of_le->eO,le_antisymm->eP,lt_or_eq_of_le->fF,le_of_add_le_add_right->fG,min_le_left->fJ,succ_le_of_lt->fL,zero_lt_one->fN,two_mul->fO,sub_le_iff_le_add->fP,lt_succ_of_lt->fS,sub_self->fY,not_succ_le_zero->gj,add_lt_add_right->gK,div_lt_of_lt_mul->gM,sub_le_of_le_add->gN,le_sub_of_add_le->gQ,ne_of_beq_eq_false->gY,not_succ_le_self->iF,sub_le_iff_le_add'->iI,sub_add_sub_cancel->iJ
open Nat.succ renaming inj->dK
open Ne renaming symm->cX
open Option renaming isSome_iff_exists->cz,isNone_iff_eq_none->ek,map_eq_some_iff->eS,bind_eq_some_iff->hU
open Option.some renaming inj->ai
open Prod renaming fst->az,snd->cP,ext->dQ
open Prod.mk renaming inj->cL
open PySem.Builtin.Int renaming intBits->ic
open PySem.Builtin.List renaming listFitsIndex->ie
open PySem.Builtin.Range renaming rangeSize->iC
open PySem.Code renaming compLoop->eu
open PySem.DictEntry renaming refKey->ig
open PySem.Heap renaming get?_none_of_le->bJ,get?_push_size->bK,get?_push_of_some->bS,SameBut->bY,lt_size->cH,ExtBut->dH,get?_update_self->gb
open PySem.Heap.IsSliceOf renaming new->iz
open PySem.Heap.SameBut renaming update->d7
open PySem.NameKind renaming free->gh,cell->gu
open PySem.Obj renaming mapSeq->bc,putName_eq->eV,putNameByArray->eW
open PySem.PyData renaming keyHash->fQ
open PySem.Str renaming ofString->ao,mk->bh
open PySem.Value renaming none->dh,ref->er
open PySem.Value.ref renaming inj->cJ
open PySem.W.RowW renaming records->gB
namespace Mine.Internal
open PySem PySem.W PySem.Calls PyProof.Rows
noncomputable section
section
variable{b c d e a f:Nat}
theorem dc{p:Prop}[Decidable p](h:decide p=true):p:=of_decide_eq_true h
theorem yc(h:((b:Nat):Int)<3):b<3:=aS.mp h
theorem m5(h1:c=2\/c=5)(h2:((d:Nat):Int)<((c:Nat):Int)):d<5:=aA (aS.mp h2) (h1.elim (λe=>e▸by decide) λe=>e▸ak 5)
theorem zm(h1:c=2\/c=5)(h2:((d:Nat):Int)<((c:Nat):Int))(h3:d=(b+(e+1))):b<=3:=aO (aA (aA (bf (bO e)) (aq h3.symm)) (aO (m5 h1 h2)))
theorem Bl(h0:a<500)(hb:b<=3):a+1+5*b<=515:=aK h0 (bE 5 hb)
theorem DI(h1:((c:Nat):Int)<3)(h2:(1+c)=(b+(d+1))):b<=c:=eE (ah (bf (bO d)) (aq (h2.symm.trans (bX 1 c))))
theorem c3(h:a<3):a=0\/a=1\/a=2:=(fF (aO h)).elim (λh=>(fF (aO h)).elim (λh=>.inl (Nat.lt_one_iff.mp h)) λe=>.inr (.inl e)) λe=>.inr (.inr e)
theorem c4(h:a<4):a=0\/a=1\/a=2\/a=3:=(fF (aO h)).elim (λh=>(c3 h).imp id (.imp id .inl)) λe=>.inr (.inr (.inr e))
theorem q4(f:Nat):4*f=2*f+2*f:=dB 2 2 f
theorem Om(c:Nat):2*c+1<2+4*c:=aA (bG _) (ah (aq (bX (2*c) 2)) (aF (b9 c (dc rfl)) 2))
theorem q2(c:Nat):2*c+1+2*c=1+4*c:=(congrArg (·+2*c) (bX (2*c) 1)).trans ((bH 1 (2*c) (2*c)).trans (congrArg (1+·) (q4 c).symm))
theorem q1(c f:Nat):c+2*f+1+2*f=c+(1+4*f):=(bH c (2*f+1) (2*f)).trans (congrArg (c+·) (q2 f))
theorem tB{n:Nat}(h:10<=a)(d:n<10):¬ a=n:=λe=>cD d (ah h (aq e))
theorem ZY(h0:a<20):a<30:=aA h0 (dc rfl)
theorem ZZ(h0:((a+(16*b))+16)<9900):(a+1)<9900:=av (aK (aG a _) (dc rfl)) h0
theorem Z0(h0:a<=(b+1)):(a+1)<=((b+1)+1):=cg h0
theorem Z1(h0:b<=60000)(h1:a<=b):(a+1)<=65536:=av h1 (av h0 (dc rfl))
theorem HF(h0:c<=b)(h1:a<=(c+1)):a<=(b+1):=ah h1 (aL h0)
theorem DJ(h0:a<=60000):a<=65536:=ah h0 (dc rfl)
theorem Z2(h0:b<=60000)(h1:a<=b):a<=60000:=ah h1 h0
theorem uA:¬(a<0):=dW _
theorem Z3(h0:(a+1)<(b+1)):a<b:=aO h0
theorem HG(h0:a<b):(a+1)<(b+1):=cg h0
theorem Bm:0<=((a:Nat):Int):=eF _
theorem Oo(h0:a<=65536):((a:Nat):Int)<=65536:=cF.mpr h0
theorem HJ(h0:a<65536):((a:Nat):Int)<65536:=aS.mpr h0
theorem Z4(h0:(a+(b+1))<=12):a<=12:=ah (aG _ _) h0
theorem DK(h0:a<=2):a<3:=cg h0
theorem Bo(h0:a<=21):a<=65536:=ah h0 (dc rfl)
theorem Z5(h0:b=(a+(c+1))):a<b:=by simp [h0]
theorem Z6(h0:b<=21)(h1:b=(a+(c+1))):a<65536:=aA (cR (bf (bO c)) h1.symm) (ah h0 (dc rfl))
theorem Z7(h0:a<=b)(h1:¬(a=b)):a<b:=c6 h0 h1
theorem Z8(h0:a<=((30*b)+c)):a<=((30*b)+(c+1)):=c7 h0
theorem Oq(h0:a=b):((a:Nat):Int)=((b:Nat):Int):=by simp [h0]
theorem Z9(h0:a=b)(h1:a<b):False:=by subst h0;lia
theorem aac:(((a:Nat):Int)<((b:Nat):Int)↔a<b):=by simp
theorem aad(h0:(b+(c+1))<=12)(h1:d<=21)(h2:a<=((30*b)+e))(h3:d=(e+(f+1))):a<=60000:=ah h2 (ah (aK (bE 30 (ah (aG b (c+1)) h0)) (ah (aG e (f+1)) (ah (aq h3.symm) h1))) (dc rfl))
theorem aae(h0:d<=((30*b)+c))(h1:a<=(d+1)):a<=((30*b)+(c+1)):=ah h1 (aL h0)
theorem aaf(h0:c<b):¬((a=a/\b=c)):=λe=>aM _ (e.2▸h0)
theorem aag(h0:¬(a=b)):¬(((a:Nat):Int)=((b:Nat):Int)):=λe=>h0 (Int.ofNat_inj.mp e)
theorem Ot(h0:(b+1)<(a+1)):0<a:=av (bx b) (cj h0)
theorem aah(h0:(a+(b+1))<=12):((a+1)+b)<=12:=ah (aq (cu a b)) h0
theorem aai(h0:c<=21)(h1:a<=((30*b)+c)):a<=(30*(b+1)):=ah h1 (aF (ah h0 (dc rfl)) (30*b))
theorem HK(h0:a<10):a<11:=c7 h0
theorem Bp(h0:10<=a):¬(a=1):=tB h0 (dc rfl)
theorem DL(h0:a<4):(a=0\/(a=1\/(a=2\/a=3))):=c4 h0
theorem Ou(h0:(¬(c=b)/\(¬(d=b)/\(¬(e=b)/\¬(f=b))))):(¬((a+b)=(a+c))/\¬((a+b)=(a+d))):=⟨λz=>h0.1 (bz z).symm,λz=>h0.2.1 (bz z).symm⟩
theorem aaj(h0:220<=a):200<=a:=ah (bR _ _) h0
theorem Ov(h0:a<=3):a<=10:=ah h0 (dc rfl)
theorem aak(h0:a<=b)(h1:b<=100):a<=100:=ah h0 h1
theorem Ow(h0:a<b):¬(((2:Nat)=2/\a=b)):=λe=>aM _ (e.2▸h0)
theorem aal(h0:a<=4):a<=11:=ah h0 (dc rfl)
theorem aam(h0:a<900):a<1000:=aA h0 (dc rfl)
theorem HL(h0:325<=a):20<=a:=ah (bR _ _) h0
theorem Ox(h0:a<=11):a<=60000:=ah h0 (dc rfl)
theorem aan(h0:a<900):(a+1)<1000:=av h0 (dc rfl)
theorem Oz(h0:a<b):((a:Nat):Int)<((b:Nat):Int):=aS.mpr h0
theorem OB(h0:b<a):¬(((a:Nat):Int)<((b:Nat):Int)):=λe=>Nat.lt_asymm h0 (aS.mp e)
theorem HM(h0:b<a):¬(((a:Nat):Int)=((b:Nat):Int)):=λe=>eG h0 (Int.ofNat_inj.mp e)
theorem aao(h0:b=a):¬(((a:Nat):Int)<((b:Nat):Int)):=by simp [h0]
theorem aap(h0:a<30):(a+1)<=64:=ah h0 (dc rfl)
theorem aaq{a:Int}(h0:a<=3):(a:Int).toNat<=3:=by simp [h0]
theorem aar{a:Int}(h0:0<=a)(h1:a<=3):((-9223372036854775808)<=a/\a<9223372036854775808):=⟨dD (dc rfl) h0,dX h1 (dc rfl)⟩
theorem HN(h0:a<=100):a<=65536:=ah h0 (dc rfl)
theorem aas(h0:b<=100)(h1:a<b):(a+1)<=65536:=ah h1 (ah h0 (dc rfl))
theorem OD(h0:a<=10):a<=65536:=ah h0 (dc rfl)
theorem aat(h0:a<=2):a<=100:=ah h0 (dc rfl)
theorem aau(h0:c<=b)(h1:a<d)(h2:d<=c):¬(((1:Nat)=1/\a=b)):=λe=>aM a (aA h1 (ah h2 (ah h0 (aq e.2.symm))))
theorem DM(h0:a<=2):a<=65536:=ah h0 (dc rfl)
theorem OI:¬((a+1)=0):=Nat.succ_ne_zero _
theorem OJ:¬(0=(a+1)):=(Nat.succ_ne_zero _).symm
theorem HP(h0:a<=c)(h1:c<=b):a<=b:=ah h0 h1
theorem aav(h0:c<=b)(h1:c=(d+a)):a<=b:=ah (ah (bR a d) (aq h1.symm)) h0
theorem aaw(h0:c<=d)(h1:c=(a+e))(h2:d<=(b+e)):a<=b:=fG (ah (aq h1.symm) (ah h0 h2))
theorem aax(h0:c=(d+e))(h1:a<=(f+e))(h2:f<=(b+d)):a<=(b+c):=ah h1 (ah (aT h2 e) (aq ((bH b d e).trans (congrArg (b+·) h0.symm))))
theorem aay(h0:c<=b)(h1:a<=c):a<=b:=ah h1 h0
theorem aaz(h0:b<=a)(h1:b=(2+(4*c))):a=((a - 1)+1):=(cS (ah (h1▸ah (dc rfl) (aG 2 (4*c))) h0)).symm
theorem aaA(h0:b=(2+(4*c))):(a+1)<=(a+b):=aF (ah (ah (dc rfl:1<=2) (aG 2 (4*c))) (aq h0.symm)) a
theorem DN:a<=(a+1):=aW _
theorem qJ(h0:c<(b+1))(h1:a<c):a<b:=aA h1 (aO h0)
theorem aaB(h0:c=(2+(4*d)))(h1:c<=(b+1))(h2:a<=(2*d)):a<=b:=aO (aA (av h2 (Nat.lt_of_succ_lt (cR (Om d) h0.symm))) h1)
theorem aaC(h0:b=(2+(4*c)))(h1:b<=(d+1))(h2:e<=(2*c))(h3:d<=(a+e)):a=((a - 1)+1):=(cS (Nat.pos_of_ne_zero λz=>cD (Om c) (ah (aq h0.symm) (ah h1 (aL (ah h3 (ah (aq ((congrArg (·+e) z).trans (cU e))) h2))))))).symm
theorem aaD(h0:c=(2+(4*d)))(h1:c<=(e+1))(h2:f<=(2*d))(h3:a<=(2*d))(h4:e<=((b+1)+f)):a<=b:=ah h3 (fG (b:=2+2*d) (ah (aq ((Nat.add_left_comm (2*d) 2 (2*d)).trans ((congrArg (2+·) (q4 d).symm).trans h0.symm))) (ah h1 (ah (aL (ah h4 (aF h2 _))) (aq ((bH b 1 (2*d+1)).trans (congrArg (b+·) (cu 1 (2*d)).symm)))))))
theorem aaE{g:Nat}(h0:c=(2+(4*d)))(h1:e<=(2*d))(h2:f<=(2*d))(h3:a<=((g+1)+e))(h4:g<=(b+f)):(a+1)<=(b+c):=ah (aL (ah h3 (aK (aL (ah h4 (aF h2 b))) h1))) (aq ((congrArg Nat.succ (q1 b d)).trans (congrArg (b+·) ((cu 1 (4*d)).symm.trans h0.symm))))
theorem aaF(h0:(c+1)<=b)(h1:a<=c):a<=(b+1):=ah h1 (ah (aD h0) (aW b))
theorem aaG(h0:45<=(a+b))(h1:b=42):a=((a - 1)+1):=(cS (fG (ah (by rw [h1];decide:1+b<=45) h0))).symm
theorem aaH:¬(((a:Nat):Int)<0):=by simp
theorem aaI(h0:¬(a<=b)):(max 0 (min ((a:Nat):Int) ((b:Nat):Int)))=((b:Nat):Int):=by rw [Int.min_eq_right (cF.mpr (Nat.le_of_not_le h0))];exact Int.max_eq_right (eF b)
theorem HQ:¬(((1:Nat)=0/\a=1)):=λe=>cV _ e.1
theorem HR:¬(((2:Nat)=0/\a=1)):=by simp
theorem aaJ{a:Int}(h0:c<=b)(h1:a<=((c:Nat):Int)):a<=((b:Nat):Int):=dD h1 (cF.mpr h0)
theorem aaK(h0:a<=3):a<=65536:=ah h0 (dc rfl)
theorem aaL(h0:b<=3)(h1:c<b)(h2:a<=c):(a+1)<=65536:=ah (av h2 h1) (ah h0 (dc rfl))
theorem DP(h0:((b+c)+1)<=a):((((a - ((b+c)+1))+b)+c)+1)=a:=by rw [bH _ b c];exact cS h0
theorem aaM(h0:1<=a):((a - 1)+1)=a:=cS h0
theorem OO(h0:(a+2)<b):a<b:=av (aG a 2) h0
theorem aaN(h0:a<=60000):(a+1)<=65536:=av h0 (dc rfl)
theorem OQ:((a+1)+b)=(a+(b+1)):=by lia
theorem Bq(h0:a<=100):a<65536:=av h0 (dc rfl)
theorem HS(h0:a<5000):a<100000:=aA h0 (dc rfl)
theorem Br(h0:0<a):0<((a:Nat):Int):=Int.natCast_pos.mpr h0
theorem OS(h0:a<=60000):((a:Nat):Int)<65536:=aS.mpr (av h0 (dc rfl))
theorem wC{a:Int}(h0:0<=a):a=(((a:Int).toNat:Nat):Int):=(gJ h0).symm
theorem HV(h0:((a:Nat):Int)<((b:Nat):Int)):a<b:=aS.mp h0
theorem HW(h0:¬(a=1)):¬(((0:Nat)=0/\a=1)):=λe=>h0 e.2
theorem OU(h0:b<=60000)(h1:((a:Nat):Int)<((b:Nat):Int)):a<65536:=aA (aS.mp h1) (ah h0 (dc rfl))
theorem OV(h0:a<1000):((a:Nat):Int)<65536:=aS.mpr (bP h0 (dc rfl))
theorem OW(h0:b=c)(h1:((a:Nat):Int)<((c:Nat):Int)):a<b:=cR (aS.mp h1) h0.symm
theorem OX(h0:1<a):¬(((0:Nat)=0/\a=1)):=λe=>aM _ (e.2▸h0)
theorem OY(h0:b<1000)(h1:((a:Nat):Int)<((b:Nat):Int)):a<65536:=bP (aS.mp h1) (bP h0 (dc rfl))
theorem aaO(h0:a<500):a<100000:=aA h0 (dc rfl)
theorem aaP(h0:(a=2\/a=5)):0<((a:Nat):Int):=h0.elim (λe=>e▸by decide) λe=>e▸by decide
theorem aaQ(h0:(a=2\/a=5)):((a:Nat):Int)<65536:=h0.elim (λe=>e▸by decide) λe=>e▸by decide
theorem OZ(h0:(b=2\/b=5))(h1:((a:Nat):Int)<((b:Nat):Int)):a<=65536:=ah (aD (m5 h0 h1)) (dc rfl)
theorem O0(h0:10<=a):(¬(a=1)/\¬(a=8)):=⟨tB h0 (dc rfl),tB h0 (dc rfl)⟩
theorem aaR(h0:a<500)(h1:(c=2\/c=5))(h2:((d:Nat):Int)<((c:Nat):Int))(h3:d=(b+(e+1))):((a+1)+(5*b))<5000:=av (Bl h0 (zm h1 h2 h3)) (dc rfl)
theorem O1(h0:4<=a):0<a:=ah (bR _ _) h0
theorem O2(h0:a<=100):a<=60000:=ah h0 (dc rfl)
theorem aaS(h0:a<500)(h1:(c=2\/c=5))(h2:((d:Nat):Int)<((c:Nat):Int))(h3:d=(b+(e+1))):(((a+1)+(5*b))+1)<100000:=av (aT (Bl h0 (zm h1 h2 h3)) 1) (dc rfl)
theorem HY(h0:10<=b)(h1:b<=a):1<a:=aA (dc rfl:1<10) (ah h0 h1)
theorem aaT(h0:a<500)(h1:(c=2\/c=5))(h2:((d:Nat):Int)<((c:Nat):Int))(h3:d=(b+(e+1))):((((a+1)+(5*b))+1)+1)<5000:=av (aT (Bl h0 (zm h1 h2 h3)) 2) (dc rfl)
theorem aaU(h0:a<500)(h1:(c=2\/c=5))(h2:((d:Nat):Int)<((c:Nat):Int))(h3:d=(b+(e+1))):(((((a+1)+(5*b))+1)+1)+1)<100000:=av (aT (Bl h0 (zm h1 h2 h3)) 3) (dc rfl)
theorem aaV(h0:a<=(10+b)):(a+1)<=(10+(b+1)):=aT h0 _
theorem aaW(h0:(b=2\/b=5))(h1:((c:Nat):Int)<((b:Nat):Int))(h2:a<=(10+d))(h3:c=(d+(e+1))):a<=100:=ah h2 (ah (aF (zm h0 h1 h3) 10) (dc rfl))
theorem aaX(h0:a<500)(h1:(c=2\/c=5))(h2:((d:Nat):Int)<((c:Nat):Int))(h3:d=(b+(e+1))):((((((a+1)+(5*b))+1)+1)+1)+1)<5000:=av (aT (Bl h0 (zm h1 h2 h3)) 4) (dc rfl)
theorem aaY:(((((((a+1)+(5*b))+1)+1)+1)+1)+1)<=((a+1)+(5*(b+1))):=ak _
theorem aaZ:((((((a+1)+(5*b))+1)+1)+1)+1)<=((a+1)+(5*(b+1))):=aW _
theorem aa0(h0:4<=b)(h1:a<4):a<b:=aA h1 h0
theorem aa1(h0:a<4):a<65536:=aA h0 (dc rfl)
theorem aa2(h0:a<500):(a+30)<5000:=aA (gK h0 30) (dc rfl)
theorem aa3(h0:(b=2\/b=5))(h1:((c:Nat):Int)<((b:Nat):Int))(h2:a<=(10+c)):a<=100:=ah h2 (ah (aF (aD (m5 h0 h1)) 10) (dc rfl))
theorem aa4{a b c:Int}(h0:(0<=a/\(0<=b/\(0<=c/\c<=((((d+30)+1):Nat):Int))))):(0<=a/\(0<=b/\(0<=c/\c<=(((d+40):Nat):Int)))):=h0.imp id (.imp id (.imp id λz=>dD z (cF.mpr (aF (by decide:31<=40) d))))
theorem aa5(h0:((b:Nat):Int)<((2:Nat):Int)):((a+1)+(5*b))<=(a+30):=bH a 1 (5*b)▸aF (ah (aF (bE 5 (aD (aS.mp h0))) 1) (dc rfl)) a
theorem aa6(h0:a<500)(h1:((b:Nat):Int)<((5:Nat):Int)):((a+1)+(5*b))<5000:=av (aK h0 (bE 5 (aD (aS.mp h1)))) (dc rfl)
theorem aa7(h0:((b:Nat):Int)<((5:Nat):Int)):(((a+1)+(5*b))+1)<=(a+30):=ah (aL (aF (bE 5 (aO (aS.mp h0))) (a+1))) (aF (dc rfl:22<=30) a)
theorem aa8(h0:1<=b):(a+1)<=(a+b):=aF h0 _
theorem aa9:((a+b) - (a+1))=(b - 1):=Nat.add_sub_add_left a b 1
theorem abb(h0:b<=90)(h1:a<=b):(a+1)<=65536:=av h1 (av h0 (dc rfl))
theorem zo(h0:a<=b):a<=(b+1):=c7 h0
theorem abd(h0:a<=b):(a+1)<=(b+1):=cg h0
theorem abe(h0:a=0)(h1:b=2):a<b:=by simp [h0,h1]
theorem abf(h0:a<=b)(h1:(1<=c/\(1<=e/\(1<=f/\1<=d)))):(¬(a=(b+c))/\¬(a=(b+d))):=⟨λe=>cD (bf h1.1) (ah (aq e.symm) h0),λe=>cD (bf h1.2.2.2) (ah (aq e.symm) h0)⟩
theorem abg(h0:a<b)(h1:b<10):a<11:=bP h0 (bP h1 (dc rfl))
theorem abh(h0:a<b)(h1:b<10):a<12:=bP h0 (bP h1 (dc rfl))
theorem yd(h0:a<10):a<=9:=aO h0
theorem HZ(h0:a<=(21*(9+1))):a<=65536:=ah h0 (dc rfl)
theorem abi{a:Int}(h0:a<=((b:Nat):Int)):a<=(((b+1):Nat):Int):=dD h0 (cF.mpr (aW b))
theorem O3{a:Int}(h0:0<a):0<=a:=eH h0
theorem H6{a:Int}(h0:0<=a):0<=(a+1):=Int.le_add_one h0
theorem O4{a:Int}(h0:b<100000)(h1:a<=((b:Nat):Int)):(a+1)<1073741824:=dX (Int.add_le_add_right (dD h1 (cF.mpr (aD h0))) 1) (dc rfl)
theorem abj{a:Int}(h0:a<1000003):a<1073741824:=fH h0 (dc rfl)
theorem abk{a:Int}(h0:a<=((b:Nat):Int)):(a+1)<=(((b+1):Nat):Int):=by simp [h0]
theorem O5(h0:a<=63):a<=65536:=ah h0 (dc rfl)
theorem abl:(min 30 a)<=65536:=ah (fJ 30 a) (dc rfl)
theorem O6(h0:a<=b)(h1:b<a):False:=aM _ (aA h1 h0)
theorem abm(h0:a<65536):(a+1)<=65536:=h0
theorem abn(h0:10<=a):¬(((0:Nat)=0/\a=1)):=λe=>by obtain ⟨a,b⟩:=e;lia
theorem abo(h0:10<=a):¬(((0:Nat)=0/\1=a)):=λe=>tB h0 (dc rfl) e.2.symm
theorem abp(h0:10<=a):¬(((0:Nat)=0/\5=a)):=λe=>tB h0 (dc rfl) e.2.symm
theorem O7(h0:10<=a):¬(((0:Nat)=0/\a=5)):=λe=>tB h0 (dc rfl) e.2
theorem abq(h0:5<b):¬((0=a/\5=b)):=λe=>aM _ (e.2▸h0)
theorem abr(h0:a<=100):a<=65533:=ah h0 (dc rfl)
theorem O8(h0:a<1000):a<100000:=aA h0 (dc rfl)
theorem abt(h0:a<1000):(a+1)<100000:=av h0 (dc rfl)
theorem O9(h0:10<=b)(h1:b<=a):¬(((0:Nat)=0/\a=1)):=λe=>tB (ah h0 h1) (dc rfl) e.2
theorem abu(h0:(c+1)<=b)(h1:a<=c):a<=b:=ah h1 (aD h0)
theorem abv{a:Int}(h0:0<=a)(h1:a<4):(a=0\/(a=1\/(a=2\/a=3))):=by
 obtain ⟨n,rfl⟩:=Int.eq_ofNat_of_zero_le h0
 exact (c4 (aS.mp h1)).imp (congrArg _) (.imp (congrArg _) (.imp (congrArg _) (congrArg _)))
theorem abw{a b:Int}(h0:(b+((c:Nat):Int))<a):0<((a - b) - ((c:Nat):Int)):=Int.sub_pos_of_lt (Int.lt_sub_left_of_add_lt h0)
theorem abx{b c:Int}(h0:(c+((a:Nat):Int))<b):(a+1)<=((b - c):Int).toNat:=(Int.le_toNat (eH (Int.sub_pos_of_lt (dX (Int.le_add_of_nonneg_right (eF a)) h0)))).mpr (Int.le_sub_left_of_add_le (show c+((a:Int)+1)<=b from Int.add_assoc c a 1▸(show c+(a:Int)+1<=b from h0)))
theorem aby{a:Int}:((a+((b:Nat):Int))+1)=(a+(((b+1):Nat):Int)):=Int.add_assoc a b 1
theorem abz{a b:Int}:(((a - b) - ((c:Nat):Int)) - 1)=((a - b) - (((c+1):Nat):Int)):=Int.sub_sub (a - b) c 1
theorem abA{a b:Int}(h0:¬((b+((c:Nat):Int))<a)):((a - b) - ((c:Nat):Int))<=0:=Int.sub_nonpos_of_le (Int.sub_left_le_of_le_add (eM.mp h0))
theorem abB(h0:b<a):((((a:Nat):Int) - 1) - ((b:Nat):Int))=((((a - 1) - b):Nat):Int):=by rw [Int.ofNat_sub (dF h0),Int.ofNat_sub (cG h0)];rfl
theorem abC(h0:((((a:Nat):Int) - 1) - ((b:Nat):Int))=((((a - 1) - b):Nat):Int)):(((((a - 1) - b):Nat):Int) - 1)=((((a:Nat):Int) - 1) - (((b+1):Nat):Int)):=(congrArg (· - 1) h0.symm).trans (Int.sub_sub _ _ _)
theorem abD(h0:b<=a)(h1:¬(b<a)):((((a:Nat):Int) - 1) - ((b:Nat):Int))=(-1):=by lia
theorem abE{a b:Int}:(((a - b) - 1)+1)=(a - b):=by simp
theorem abF{a b:Int}(h0:((0<=b/\b<=a)/\a<=65536))(h1:¬(b<a)):0=(a - b):=(Int.sub_eq_zero_of_eq (Int.le_antisymm (eM.mp h1) h0.1.2)).symm
theorem H7(h0:10<=a):(4+1)<=a:=ah (bR _ _) h0
theorem abG(h0:a<=(b+c)):(a+1)<=(b+(c+1)):=aT h0 _
theorem abH(h0:a<10):(a+1)<11:=cg h0
theorem abI(h0:b<=(21*(9+1)))(h1:c<=b)(h2:a=c):a<=65536:=ah (aq h2) (ah h1 (ah h0 (dc rfl)))
theorem abJ(h0:b<=c)(h1:c<=d)(h2:d<=40)(h3:a<b):(a+1)<=65536:=ah h3 (ah h0 (ah h1 (ah h2 (dc rfl))))
theorem abK(h0:2<=b)(h1:b<=a):2<=a:=ah h0 h1
theorem abL(h0:a<=b)(h1:b<=c)(h2:c<=40):a<=60:=ah h0 (ah h1 (ah h2 (dc rfl)))
theorem abM(h0:b<=c)(h1:c<=40)(h2:a<b):(a+1)<=65536:=ah h2 (ah h0 (ah h1 (dc rfl)))
theorem abN(h0:b<=c)(h1:(a+(2*c))<1000):(a+(2*b))<1000:=av (aF (bE 2 h0) a) h1
theorem abO(h0:b<=c)(h1:((a+(16*c))+16)<9900):((a+(16*b))+16)<9900:=av (aT (aF (bE 16 h0) a) 16) h1
theorem abP(h0:c<=10)(h1:a<=200)(h2:c=(b+(d+1))):(a+(2*b))<900:=av (aK h1 (bE 2 (ah (aG b (d+1)) (ah (aq h2.symm) h0)))) (dc rfl)
theorem Pa(h0:(a+(b+1))=11):a<11:=cR (bf (bO b)) h0
theorem Pb(h0:b<11)(h1:a<=b):(a+1)<=65536:=ah (aL h1) (ah h0 (dc rfl))
theorem abQ(h0:a<=100):a<=200:=ah h0 (dc rfl)
theorem abR(h0:a<=100):a<100000:=av h0 (dc rfl)
theorem abS:(6+((a:Nat):Int))=(((6+a):Nat):Int):=by simp
theorem abT(h0:((a:Nat):Int)<5):(6+a)<=65536:=ah (aF (aD (aS.mp h0)) 6) (dc rfl)
theorem abU(h0:((a:Nat):Int)<5):(6+a)<=10:=aF (aO (aS.mp h0)) 6
theorem abV(h0:a<=100):(a+1)<=200:=av h0 (dc rfl)
theorem Pg{a b c d e f:Int}(h0:(a<e\/(a=e/\c<f)))(h1:(e<b\/(e=b/\f<d))):(a<b\/(a=b/\c<d)):=h0.elim (λp=>.inl (h1.elim (fH p) λq=>q.1▸p)) λp=>h1.imp (λq=>p.1▸q) λq=>⟨p.1.trans q.1,fH p.2 q.2⟩
theorem Ph{a b c d:Int}(h0:(¬(b<a)/\(¬(b=a)\/¬(d<c))))(h1:(¬(b=a)\/¬(d=c))):(a<b\/(a=b/\c<d)):=(Decidable.em (b=a)).elim (λe=>.inr ⟨e.symm,(fK (h1.resolve_left λz=>z e)).resolve_left (h0.2.resolve_left λz=>z e)⟩) λe=>.inl ((fK e).resolve_left h0.1)
theorem H8(h0:(a+1)<=b):a<=b:=aD h0
theorem abW(h0:(a+1)<=b):a<b:=h0
theorem abX(h0:a<=(c+d)):(a+b)<=(c+(b+(1*d))):=ah (aT h0 b) (aq ((bH c d b).trans (congrArg (c+·) ((bX d b).trans (congrArg (b+·) (Nat.one_mul d).symm)))))
theorem abY:a<=(a+b):=aG _ _
theorem abZ(h0:a<=(c+e))(h1:e<=(2*f))(h2:b<=(2*f))(h3:d=(1+(4*f))):((a+(0+1))+b)<=(c+d):=ah (aK (aL (ah h0 (aF h1 c))) h2) (aq ((q1 c f).trans (congrArg (c+·) h3.symm)))
theorem ab0(h0:a<=d)(h1:d<=21)(h2:b<=c):(a+b)<=(c+21):=bX a b▸aK h2 (ah h0 h1)
theorem ab1:(0+21)<=(21*(a+1)):=bR _ _
theorem ab2(h0:b<=a)(h1:c<b):a=((a - 1)+1):=(cS (ah (fL (cG h1)) h0)).symm
theorem ab3(h0:a<c)(h1:c<=(b+1)):a<=b:=aO (aA h0 h1)
theorem ab4(h0:a<=(21*(b+1))):(a+21)<=(21*((b+1)+1)):=aT h0 _
theorem Pj(h0:(a+(b+1))<=100):a<=100:=ah (aG _ _) h0
theorem ab5(h0:(a+(b+1))<=100):a<65536:=av (ah (aG a (b+1)) h0) (dc rfl)
theorem ab6(h0:(a+(b+1))<=100):((a+1)+b)<=100:=ah (aq (cu a b)) h0
theorem ab7(h0:(c+1)<(b+1))(h1:a<c):(a+1)<b:=av h1 (cj h0)
theorem ab8(h0:a<10):(a+1)<15:=av h0 (dc rfl)
theorem ab9(h0:a<=210):a<=1000:=ah h0 (dc rfl)
theorem acd(h0:a<=21):a<=1000:=ah h0 (dc rfl)
theorem zp(h0:(a+(c+1))<=b):a<b:=aA (bf (bO c)) h0
theorem zq(h0:(a+(c+1))<=b):(a - 1)<b:=av (eN a 1) (aA (bf (bO c)) h0)
theorem ace(h0:1<=a):¬(a=(a - 1)):=λe=>aM a (av (aq e) (cW h0 (dc rfl)))
theorem Pk(h0:a<c)(h1:(c+(d+1))<=b):a<b:=aA h0 (ah (aG c (d+1)) h1)
theorem H9(h0:a<b)(h1:¬(a=(b - 1))):a<(b - 1):=c6 (dF h0) h1
theorem acf(h0:1<=a):(a - 1)<a:=cW h0 (dc rfl)
theorem Pp(h0:a<(b+1))(h1:¬(a=b)):a<b:=c6 (aO h0) h1
theorem acg:1<=(a+1):=bR _ _
theorem Pq(h0:(a+(b+1))<=c):((a+1)+b)<=c:=ah (aq (cu a b)) h0
theorem ach(h0:a<=((b+1)+c)):a<=(b+(c+1)):=ah h0 (aq (cu b c))
theorem aci(h0:a<(b+(c+1))):a<((b+1)+c):=cR h0 (cu b c).symm
theorem acj(h0:2<=a):(a - 1)<a:=cW (aA Nat.zero_lt_two h0) fN
theorem ack(h0:2<=a):2<=(a+1):=c7 h0
theorem acm(h0:2<=a):¬(a=(a - 1)):=λe=>aM a (av (aq e) (cW (cw h0) (dc rfl)))
theorem acn(h0:(a+(c+1))<=b):a<=b:=ah (aG _ _) h0
theorem aco(h0:a<c)(h1:c<b):a<b:=bP h0 h1
theorem acp(h0:c<b)(h1:b<a):((a - 1) - b)<((a - 1) - c):=Nat.sub_lt_sub_left (aA h0 (dF h1)) h0
theorem acq(h0:c<a):((a - 1) - b)<a:=av (eN _ _) (cW (cG h0) (dc rfl))
theorem acr(h0:2<=a):(1+(a - 1))<=a:=aq (eO (cw h0))
theorem Pu(h0:2<=b)(h1:a<=(1+(b - 1))):a<=b:=ah h1 (aq (eO (cw h0)))
theorem acs(h0:1<a):0<(a - 1):=Nat.sub_pos_of_lt h0
theorem acu(h0:1<a):(a - 1)<a:=cW (bP fN h0) fN
theorem acv(h0:1<=a)(h1:¬(1<a)):a=1:=eP (dG h1) h0
theorem acw(h0:a<b)(h1:b<2):(a=0/\b=1):=by
 have e:b=1:=eP (aO h1) (fL (cG h0))
 exact ⟨Nat.lt_one_iff.mp (e▸h0),e⟩
theorem acy(h0:2<=a):1<(1+(a - 1)):=bf (Nat.sub_pos_of_lt h0)
theorem acz(h0:2<=a):((1+1)+(a - (1+1)))<=a:=by simp [h0]
theorem acA(h0:(1+1)<=a):1<=a:=aD h0
theorem acB(h0:a<=b):(a+(b - a))<=b:=by simp [h0]
theorem acC(h0:(1+1)<=b)(h1:b<=a):1<=a:=ah (aD h0) h1
theorem acD(h0:c<=b)(h1:a<=(c+(b - c))):a<=b:=ah h1 (aq (eO h0))
theorem acE(h0:(a - c)<=0)(h1:c<=b):a<=b:=ah (Nat.le_of_sub_eq_zero (Nat.le_zero.mp h0)) h1
theorem acF(h0:¬(b<=a)):(((a+b) / 2)<b/\a<=((a+b) / 2)):=by
 have h:=Nat.lt_of_not_le h0
 exact ⟨gM (by rw [fO];exact gK h b),(Nat.le_div_iff_mul_le (dc rfl)).mpr (by rw [Nat.mul_two];exact aF (aD h) a)⟩
theorem acG(h0:b<=c)(h1:(((a+b) / 2)<b/\a<=((a+b) / 2))):((a+b) / 2)<=c:=aD (aA h1.1 h0)
theorem acH(h0:(b - a)<=(c+1)):(((a+b) / 2) - a)<=c:=gN (aO (gM (av (aF (fP.mp h0) a) (cR (Nat.add_lt_add_of_lt_of_le (cg (bR a c)) (aq (Nat.add_right_comm c 1 a))) (fO _).symm))))
theorem DQ(h0:d<c)(h1:b<=d)(h2:(((a+b) / 2)<b/\a<=((a+b) / 2))):((a+b) / 2)<c:=bP (aA h2.1 h1) h0
theorem DR(h0:c<b)(h1:a<c):a<b:=bP h1 h0
theorem acI(h0:((a+b) / 2)<=c)(h1:¬(c=((a+b) / 2))):((a+b) / 2)<c:=c6 h0 λe=>h1 e.symm
theorem acJ(h0:c<=a)(h1:(((b+c) / 2)<c/\b<=((b+c) / 2))):¬(a=((b+c) / 2)):=λe=>aM _ (aA h1.1 (ah h0 (aq e)))
theorem acK(h0:(((a+b) / 2)<b/\a<=((a+b) / 2))):(((a+b) / 2)+1)<=b:=h0.1
theorem acL(h0:(a - b)<=(c+1)):(a - (((b+a) / 2)+1))<=c:=gN (Nat.le_of_mul_le_mul_left (ah (aq (fO a)) (ah (aT (fP.mp h0) a) (ah (aq ((bH (c+1) b a).trans (cu c (b+a)))) (ah (aK (Nat.le_mul_of_pos_left c (dc rfl)) (Nat.lt_mul_div_succ (b+a) (dc rfl))) (aq (Nat.mul_add 2 c _).symm))))) (dc rfl))
theorem acM(h0:c<b)(h1:d<=c)(h2:(((e+d) / 2)<d/\e<=((e+d) / 2)))(h3:a<(((e+d) / 2)+1)):a<b:=av (ah (aO h3) (ah (aD h2.1) h1)) h0
theorem acN(h0:a<(((b+c) / 2)+1))(h1:¬(a=((b+c) / 2))):a<((b+c) / 2):=c6 (aO h0) h1
theorem acO(h0:b<=c)(h1:(((a+b) / 2)<b/\a<=((a+b) / 2))):((a+b) / 2)<c:=aA h1.1 h0
theorem Pw(h0:(a+(c+1))=b):a<b:=cR (bf (bO c)) h0
theorem acP(h0:(a+(b+1))=c):((a+1)+b)=c:=by subst h0;lia
theorem acQ:(a - b)<=a:=by simp
theorem acR(h0:b<=a):(a - (a - b))=b:=Nat.sub_sub_self h0
theorem acS(h0:a<c)(h1:c<(b+1)):a<=b:=aD (aA h0 (aO h1))
theorem acT(h0:a<(b+1)):a<=b:=aO h0
theorem acU(h0:c<a)(h1:c=b):¬(a=b):=λe=>eG h0 (e.trans h1.symm)
theorem acV(h0:c<b)(h1:c=a):a<b:=by subst h1;exact h0
theorem acW(h0:c<b)(h1:c=a):a<=(b - 1):=h1▸dF h0
theorem Ia(h0:c<a)(h1:a<(b+1)):(a - 1)<b:=aA (cW (cG h0) (dc rfl)) (aO h1)
theorem acX(h0:c<a)(h1:b<c):¬(a=b):=λe=>aM _ (bP h1 (cR h0 e))
theorem acY(h0:a<b)(h1:c<a):(a - 1)<(b - 1):=Nat.sub_lt_sub_right (fL (cG h1)) h0
theorem acZ(h0:a<c)(h1:c=b):a<b:=by subst h1;exact h0
theorem ac0(h0:c<=b)(h1:¬(a=c))(h2:¬(c<a)):a<b:=aA (c6 (dG h2) h1) h0
theorem ac1(h0:1<=a):(max a 1)=a:=by simp [h0]
theorem ac2(h0:a<b):(a+(b - a))=b:=eO (aD h0)
theorem ac3(h0:a<=b)(h1:¬(a<b)):a=b:=eP h0 (dG h1)
theorem DS(h0:a<64):a<=16777216:=ah (aD h0) (dc rfl)
theorem ac4(h0:2<=a):¬(a<2):=Nat.not_lt.mpr h0
theorem ac5(h0:2<=a):0<a:=aD h0
theorem ac6(h0:a<64):a<=(16777216+1):=ah (aD h0) (dc rfl)
theorem Px(h0:(a+1)<=3):a<=3:=aD h0
theorem Py(h0:(b+1)<=3)(h1:a<(b+1)):a<3:=aA h1 h0
theorem ac7(h0:a=((b+1)+c)):a=(b+(c+1)):=by subst h0;lia
theorem DT(h0:c=b)(h1:a<c):a<b:=by subst h0;exact h1
theorem Bs(h0:a<=1000):a<=65536:=ah h0 (dc rfl)
theorem ac8(h0:b<=1000)(h1:a<=b):a<=65535:=ah h1 (ah h0 (dc rfl))
theorem ac9(h0:(a<10/\¬(a=b)))(h1:10<=a):False:=cD h0.1 h1
theorem ada(h0:a=2):1<a:=by subst h0;exact ak _
theorem adb(h0:a=3):1<a:=by simp [h0]
theorem ade(h0:a=10):10<=a:=by subst h0;exact ak _
theorem adf(h0:b=10)(h1:b<=a):¬(((0:Nat)=0/\a=9)):=λe=>tB (ah (aq h0.symm) h1) (dc rfl) e.2
theorem Ib(h0:b=10)(h1:b<=a):10<=a:=h0▸h1
theorem adg(h0:b=10)(h1:b<=a):(¬(a=1)/\(¬(a=6)/\¬(a=7))):=have h:=ah (aq h0.symm) h1;⟨tB h (dc rfl),tB h (dc rfl),tB h (dc rfl)⟩
theorem adh(h0:b<10)(h1:10<=a):¬(((0:Nat)=0/\a=b)):=λe=>aM _ (aA h0 (e.2▸h1))
theorem Pz(h0:¬(a=b)):¬(((0:Nat)=0/\a=b)):=λe=>h0 e.2
theorem adi(h0:40<=a):30<=a:=ah (bR _ _) h0
theorem Ic:¬(((2:Nat)=1/\a=b)):=λe=>cV _ e.1
theorem adj(h0:b<a):((a - 1) - b)<a:=av (eN _ _) (cW (cG h0) (dc rfl))
theorem adk(h0:b<a):((a - 1) - ((a - 1) - b))=b:=Nat.sub_sub_self (dF h0)
theorem adl(h0:(a+(b+1))=3):a<3:=aA (bf (bO b)) (aq h0)
theorem adn(h0:b<3)(h1:a<=b):(a+1)<=65536:=ah (aL h1) (ah h0 (dc rfl))
theorem ado(h0:a<=(((0+1)+1)+1)):(4+a)<=65536:=ah (aF h0 _) (dc rfl)
theorem adp(h0:a<=(((0+1)+1)+1)):(3+a)<=65536:=ah (aF h0 _) (dc rfl)
theorem DU(h0:((a=6/\b=7)\/(a=7/\b=6))):¬(a=1):=λe=>h0.elim (λz=>absurd (e.symm.trans z.1) (dc rfl)) λz=>absurd (e.symm.trans z.1) (dc rfl)
theorem DV(h0:((b=6/\a=7)\/(b=7/\a=6))):¬(a=1):=λe=>h0.elim (λz=>absurd (e.symm.trans z.2) (dc rfl)) λz=>absurd (e.symm.trans z.2) (dc rfl)
theorem adq(h0:a<=(((0+1)+1)+1)):(4+a)<=7:=aF h0 _
theorem ads(h0:a<=(((0+1)+1)+1)):(3+a)<=7:=ah (aF h0 _) (dc rfl)
theorem adt(h0:a<=7):a<=65536:=ah h0 (dc rfl)
theorem adu(h0:a<900):a<100000:=aA h0 (dc rfl)
theorem adv(h0:a<=7):((a:Nat):Int)<65536:=aS.mpr (av h0 (dc rfl))
theorem adw(h0:b<=7)(h1:((a:Nat):Int)<((b:Nat):Int)):a<65536:=aA (aS.mp h1) (ah h0 (dc rfl))
theorem adx(h0:10<=b)(h1:b<=a):10<=a:=ah h0 h1
theorem Ie(h0:((a=6/\b=7)\/(a=7/\b=6))):a<10:=h0.elim (λz=>av (aq z.1) (dc rfl)) λz=>av (aq z.1) (dc rfl)
theorem ady(h0:a<=2):a<=65535:=ah h0 (dc rfl)
theorem adz(h0:a<=50):a<=100:=ah h0 (dc rfl)
theorem adA(h0:10<=b)(h1:(c+1)<=a)(h2:b<=c):10<=a:=ah h0 (ah h2 (cw h1))
theorem adB(h0:((b=6/\a=7)\/(b=7/\a=6))):¬(a=b):=λe=>h0.elim (λz=>absurd (z.2.symm.trans (e.trans z.1)) (dc rfl)) λz=>absurd (z.2.symm.trans (e.trans z.1)) (dc rfl)
theorem adC(h0:((a=6/\b=7)\/(a=7/\b=6))):¬(((0:Nat)=0/\1=a)):=λe=>h0.elim (λz=>absurd (e.2.trans z.1) (dc rfl)) λz=>absurd (e.2.trans z.1) (dc rfl)
theorem adD:(a+1)<=(a+1):=bG _
theorem adE(h0:a<800):a<100000:=aA h0 (dc rfl)
theorem adF:(1+((a:Nat):Int))=(((1+a):Nat):Int):=by simp
theorem PA(h0:((a:Nat):Int)<3):(1+a)<=65536:=ah (aF (aD (yc h0)) 1) (dc rfl)
theorem adG(h0:((b:Nat):Int)<3)(h1:(1+b)=(c+(d+1)))(h2:a=c):(a=0\/(a=1\/a=2)):=c3 (h2▸av (DI h0 h1) (yc h0))
theorem adH(h0:a<800)(h1:((c:Nat):Int)<3)(h2:(1+c)=(b+(d+1))):((a+1)+(2*b))<100000:=av (aK h0 (bE 2 (ah (DI h1 h2) (aD (yc h1))))) (dc rfl)
theorem adJ{a:Int}(h0:0<=a)(h1:a<2):(a=0\/a=1):=(Int.lt_or_eq_of_le (gP (b:=1) h1)).elim (λh=>.inl (Int.le_antisymm (gP (b:=0) h) h0)) .inr
theorem PB(h0:((b:Nat):Int)<3)(h1:a<=c)(h2:(1+b)=(c+(d+1))):a<=50:=ah h1 (ah (DI h0 h2) (ah (aD (yc h0)) (dc rfl)))
theorem PC(h0:a<800)(h1:((c:Nat):Int)<3)(h2:(1+c)=(b+(d+1))):(((a+1)+(2*b))+1)<900:=av (aT (aK h0 (bE 2 (ah (DI h1 h2) (aD (yc h1))))) 1) (dc rfl)
theorem PD(h0:((b:Nat):Int)<3)(h1:a<=(1+b)):a<=3:=ah h1 (aF (aO (yc h0)) 1)
theorem adK(h0:((b:Nat):Int)<3):((a+1)+(2*(1+b)))<=(a+10):=ah (aF (bE 2 (aF (aO (yc h0)) 1)) (a+1)) (aF (dc rfl:7<=10) a)
theorem adL(h0:b<=c)(h1:a<=d):(a+b)<=(c+(1*d)):=bX a b▸(Nat.one_mul d).symm▸aK h0 h1
theorem adN(h0:a<=d)(h1:b<=e)(h2:d<=(2*c))(h3:e<=(2*c)):((a+1)+b)<=(1+(4*c)):=ah (aK (aL (ah h0 h2)) (ah h1 h3)) (aq (q2 c))
theorem adO(h0:(a+1)<=3):(a=0\/(a=1\/a=2)):=c3 h0
theorem PF(h0:d<=5)(h1:b<=(c*5))(h2:a<=d):(a+b)<=((c*5)+(1*5)):=bX a b▸aK h1 (ah h2 h0)
theorem PG(h0:b<c):¬((a=a/\b=c)):=λe=>aM _ (e.2▸h0)
theorem adP(h0:d<=5)(h1:e<=2)(h2:a<=100)(h3:f<e)(h4:b<=(f*5))(h5:c<=d):((a+b)+c)<=65536:=ah (aK (aK h2 (ah h4 (b9 5 (ah (aD h3) h1)))) (ah h5 h0)) (dc rfl)
theorem adQ(h0:(d+1)<=c):¬((a=b/\c=d)):=λe=>aM _ (e.2▸h0)
theorem adR(h0:b<=2)(h1:a<=(b*5)):(0+a)<65536:=av (ah (aq (cU a)) (ah h1 (b9 5 h0))) (dc rfl)
theorem adS(h0:(25*(b+1))<=a):10<=(a - ((9+0)+1)):=gQ (ah (ah (dc rfl) (Nat.le_mul_of_pos_right 25 (bO b))) h0)
theorem adT(h0:b<=2)(h1:a<=(b*5)):(a+1)<=100:=ah (aL (ah h1 (b9 5 h0))) (dc rfl)
theorem adU(h0:d<e)(h1:e<=c):¬((a=b/\c=d)):=λe=>aM _ (aA h0 (e.2▸h1))
theorem adV{a b:Int}(h0:(a<a\/(a=a/\b<b))):False:=h0.elim (λh=>Int.lt_irrefl _ h) λh=>Int.lt_irrefl _ h.2
theorem adW{a b c d:Int}(h0:¬((b<a\/(b=a/\d<c))))(h1:¬(d=c)):(a<b\/(a=b/\c<d)):=Ph ⟨λz=>h0 (.inl z),(Decidable.em (b=a)).elim (λe=>.inr λz=>h0 (.inr ⟨e,z⟩)) .inl⟩ (.inr h1)
theorem adX{a b c d:Int}(h0:¬((b<a\/(b=a/\d<c))))(h1:¬(b=a)):(a<b\/(a=b/\c<d)):=.inl ((fK h1).resolve_left λz=>h0 (.inl z))
theorem adZ(h0:a=b)(h1:2<=b):2<=a:=by subst h0;exact h1
theorem ad0(h0:a=b)(h1:b<=60):a<64:=av (ah (aq h0) h1) (dc rfl)
theorem ad1(h0:b=c)(h1:2<=c)(h2:a=b):0<a:=aA (dc rfl) (ah h1 (aq (h2.trans h0).symm))
theorem ad2(h0:(a+20)<9900):(((a+1)+1)+2)<9900:=av (aF (by decide:4<=20) a) h0
theorem ad3(h0:¬(b<a)):a<=b:=Nat.not_lt.mp h0
theorem PJ:¬(((1:Nat)=2/\a=b)):=by simp
theorem ad4(h0:a<=1000):a<=60000:=ah h0 (dc rfl)
theorem ad5(h0:c<b)(h1:a<=c):a<=b:=ah h1 (aD h0)
theorem ad6:¬(((2:Nat)=2/\(a+1)=a)):=λe=>cV _ e.2
theorem PK(h0:b<=1000)(h1:a<=c)(h2:c<b):a<65536:=av h1 (aA h2 (ah h0 (dc rfl)))
theorem ad7(h0:b<=1000)(h1:a<=b):a<=60000:=ah h1 (ah h0 (dc rfl))
theorem PL(h0:b<=1000)(h1:c<b)(h2:a<=c):(a+1)<=65536:=ah (ah (aL h2) (ah h1 h0)) (dc rfl)
theorem ad8(h0:c<=1000)(h1:d<=1000)(h2:a<=d)(h3:b<=c):(a+b)<=65536:=ah (aK (ah h2 h1) (ah h3 h0)) (dc rfl)
theorem ad9(h0:a<=1000):(1+a)<=65536:=ah (aF h0 _) (dc rfl)
theorem aea(h0:b<=1000)(h1:a<=b):a<=1000:=ah h1 h0
theorem aeb(h0:b<=1000)(h1:a<b):(a+1)<=65536:=ah h1 (ah h0 (dc rfl))
theorem PN(h0:(a+(b+1))<=1000):(a+(b+1))<=65536:=ah h0 (dc rfl)
theorem aec(h0:(a+(b+1))<=1000):a<65536:=av (ah (aG a (b+1)) h0) (dc rfl)
theorem aed(h0:(a+(b+1))<=1000):a<=65536:=ah (ah (aG a (b+1)) h0) (dc rfl)
theorem aee(h0:(b+(c+1))<=1000)(h1:a<b):(a+1)<=65536:=ah h1 (ah (ah (aG b (c+1)) h0) (dc rfl))
theorem aef(h0:(a+(b+1))<=1000):(a+(0+1))<=65536:=ah (aF (aL (bx b)) a) (ah h0 (dc rfl))
theorem aeg(h0:(b+1)<=a):(a - b)=((a - (b+1))+1):=(Nat.succ_sub_succ a b▸Nat.succ_sub h0 :)
theorem aeh(h0:b<a):¬(((1:Nat)=1/\a=b)):=λe=>aM _ (e.2▸h0)
theorem aei(h0:((a+(0+1))+(5*(b+1)))<=500):a<=65535:=ah (aD (ah (aG (a+1) (5*(b+1))) h0)) (dc rfl)
theorem aej(h0:((a+(0+1))+(5*(b+1)))<=500):a<65536:=ah (ah (aG (a+1) (5*(b+1))) h0) (dc rfl)
theorem DW:a<=(a+2):=aG _ _
theorem DX:¬((a=a/\b=(b+2))):=by simp
theorem DY:¬((a=a/\(b+1)=(b+2))):=λe=>cV _ e.2.symm
theorem aek(h0:((a+b)+1)<=100):a<65536:=aA (cg (aG a b)) (ah h0 (dc rfl))
theorem ael:a<=a:=ak _
theorem PR(h0:((a+b)+1)<=100):((a+1)+b)<=100:=ah (aq (cu a b)) h0
theorem DZ(h0:((a+b)+1)<=100):(a+b)<=100:=aD h0
theorem PS(h0:((a+1)+(5*(b+1)))<=500):(a+(5*b))<=500:=ah (aK (aW a) (bE 5 (aW b))) h0
theorem aem:¬((a=a/\(b+1)=b)):=λe=>cV _ e.2
theorem aen:¬((a=a/\(b+2)=b)):=by simp
theorem aeo(h0:((a+b)+1)<=100):a<=60000:=ah (ah (aG a b) (aD h0)) (dc rfl)
theorem aep:¬((a=a/\(b+2)=(b+1))):=λe=>cV _ e.2
theorem aeq:¬((a=a/\b=(b+1))):=λe=>cV _ e.2.symm
theorem PT(h0:a<=2):a<=1000:=ah h0 (dc rfl)
theorem PW(h0:(b+2)<c):¬((a=a/\(b+2)=c)):=λe=>aM _ (e.2▸h0)
theorem aer(h0:((a+1)+(5*(c+1)))<=500)(h1:b<=2):(a+b)<=65536:=ah (aK (ah (ah (aW a) (aG ..)) h0) h1) (dc rfl)
theorem aes(h0:((a+1)+(5*(c+1)))<=500)(h1:b<=2):(a+b)<65536:=av (aK (ah (ah (aW a) (aG ..)) h0) h1) (dc rfl)
theorem aet(h0:((a+1)+(5*(d+1)))<=500)(h1:b<=2)(h2:c<=2):((a+(b+1))+c)<=65536:=ah (aK (aK (ah (ah (aW a) (aG ..)) h0) (aL h1)) h2) (dc rfl)
theorem aeu(h0:((a+1)+(5*(d+1)))<=500)(h1:b<=2)(h2:c<=2):((a+(b+(c+1)))+(5*d))<=500:=ah (aT (aF (aK h1 (aL h2)) a) (5*d)) (ah (aq ((bH a 5 (5*d)).trans (congrArg (a+·) (bX 5 (5*d))))) (ah (aT (aW a) _) h0))
theorem Ig(h0:a<=b)(h1:1<=c)(h2:a=(b+c)):False:=cD (bf h1) (ah (aq h2.symm) h0)
theorem PY:0<=a:=bR _ _
theorem aev(h0:a=1):1<=a:=by subst h0;exact ak _
theorem aew(h0:a<=(21*(9+1))):a<=1000:=ah h0 (dc rfl)
theorem aex(h0:(a+(b+1))=3):a<=3:=ah (aG a (b+1)) (aq h0)
theorem aey(h0:a<=3):(a+1)<=65536:=av h0 (dc rfl)
theorem aez(h0:a=3):a<=65536:=by simp [h0]
theorem aeA(h0:b=3)(h1:a<b):(a+1)<=65536:=ah h1 (ah (aq h0) (dc rfl))
theorem aeB(h0:b<c):¬((2=a/\b=(c+1))):=λe=>cD h0 (ah (aW c) (aq e.2.symm))
theorem aeC:¬((a=b/\c=((c+1)+1))):=by lia
theorem aeD:¬((a=b/\c=(c+1))):=λe=>cV _ e.2.symm
end
theorem jB{P0 P1:Prop}{G:Prop}(h:P0/\P1)(f:P0->P1->G):G:=f h.1 h.2
theorem pF{P0 P1 P2:Prop}{G:Prop}(h:P0/\P1/\P2)(f:P0->P1->P2->G):G:=f h.1 h.2.1 h.2.2
theorem zu{P0 P1 P2 P3:Prop}{G:Prop}(h:P0/\P1/\P2/\P3)(f:P0->P1->P2->P3->G):G:=f h.1 h.2.1 h.2.2.1 h.2.2.2
theorem aeE{P0 P1 P2 P3 P4 P5:Prop}{G:Prop}(h:P0/\P1/\P2/\P3/\P4/\P5)(f:P0->P1->P2->P3->P4->P5->G):G:=f h.1 h.2.1 h.2.2.1 h.2.2.2.1 h.2.2.2.2.1 h.2.2.2.2.2
theorem aeF{P0 P1 P2 P3 P4 P5 P6 P7 P8:Prop}{G:Prop}(h:P0/\P1/\P2/\P3/\P4/\P5/\P6/\P7/\P8)(f:P0->P1->P2->P3->P4->P5->P6->P7->P8->G):G:=f h.1 h.2.1 h.2.2.1 h.2.2.2.1 h.2.2.2.2.1 h.2.2.2.2.2.1 h.2.2.2.2.2.2.1 h.2.2.2.2.2.2.2.1 h.2.2.2.2.2.2.2.2
theorem oK{jJ:Sort _}{P0:jJ->Prop}{G:Prop}(h:∃x0,P0 x0)(f:∀x0,P0 x0->G):G:=h.elim λx0 h=>f x0 h
theorem jL{jJ:Sort _}{P0 P1:jJ->Prop}{G:Prop}(h:∃x0,P0 x0/\P1 x0)(f:∀x0,P0 x0->P1 x0->G):G:=h.elim λx0 h=>f x0 h.1 h.2
theorem vo{jJ:Sort _}{P0 P1 P2:jJ->Prop}{G:Prop}(h:∃x0,P0 x0/\P1 x0/\P2 x0)(f:∀x0,P0 x0->P1 x0->P2 x0->G):G:=h.elim λx0 h=>f x0 h.1 h.2.1 h.2.2
theorem Bt{jJ:Sort _}{P0 P1 P2 P3:jJ->Prop}{G:Prop}(h:∃x0,P0 x0/\P1 x0/\P2 x0/\P3 x0)(f:∀x0,P0 x0->P1 x0->P2 x0->P3 x0->G):G:=h.elim λx0 h=>f x0 h.1 h.2.1 h.2.2.1 h.2.2.2
theorem Ih{jJ:Sort _}{P0 P1 P2 P3 P4 P5:jJ->Prop}{G:Prop}(h:∃x0,P0 x0/\P1 x0/\P2 x0/\P3 x0/\P4 x0/\P5 x0)(f:∀x0,P0 x0->P1 x0->P2 x0->P3 x0->P4 x0->P5 x0->G):G:=h.elim λx0 h=>f x0 h.1 h.2.1 h.2.2.1 h.2.2.2.1 h.2.2.2.2.1 h.2.2.2.2.2
theorem aeG{jJ:Sort _}{P0 P1 P2 P3 P4 P5 P6 P7 P8 P9:jJ->Prop}{G:Prop}(h:∃x0,P0 x0/\P1 x0/\P2 x0/\P3 x0/\P4 x0/\P5 x0/\P6 x0/\P7 x0/\P8 x0/\P9 x0)(f:∀x0,P0 x0->P1 x0->P2 x0->P3 x0->P4 x0->P5 x0->P6 x0->P7 x0->P8 x0->P9 x0->G):G:=h.elim λx0 h=>f x0 h.1 h.2.1 h.2.2.1 h.2.2.2.1 h.2.2.2.2.1 h.2.2.2.2.2.1 h.2.2.2.2.2.2.1 h.2.2.2.2.2.2.2.1 h.2.2.2.2.2.2.2.2.1 h.2.2.2.2.2.2.2.2.2
theorem wD{jJ:Sort _}{jR:Sort _}{P0:jJ->jR->Prop}{G:Prop}(h:∃x0 x1,P0 x0 x1)(f:∀x0 x1,P0 x0 x1->G):G:=h.elim λx0 h=>h.elim λx1 h=>f x0 x1 h
theorem nY{jJ:Sort _}{jR:Sort _}{P0 P1:jJ->jR->Prop}{G:Prop}(h:∃x0 x1,P0 x0 x1/\P1 x0 x1)(f:∀x0 x1,P0 x0 x1->P1 x0 x1->G):G:=h.elim λx0 h=>h.elim λx1 h=>f x0 x1 h.1 h.2
theorem ye{jJ:Sort _}{jR:Sort _}{P0 P1:jJ->jR->Prop}(x0:jJ)(x1:jR)(h0:P0 x0 x1)(h1:P1 x0 x1):∃x0 x1,P0 x0 x1/\P1 x0 x1:=⟨x0,x1,h0,h1⟩
theorem D0{jJ:Sort _}{jR:Sort _}{P0 P1 P2:jJ->jR->Prop}{G:Prop}(h:∃x0 x1,P0 x0 x1/\P1 x0 x1/\P2 x0 x1)(f:∀x0 x1,P0 x0 x1->P1 x0 x1->P2 x0 x1->G):G:=h.elim λx0 h=>h.elim λx1 h=>f x0 x1 h.1 h.2.1 h.2.2
theorem yf{jJ:Sort _}{jR:Sort _}{P0 P1 P2:jJ->jR->Prop}(x0:jJ)(x1:jR)(h0:P0 x0 x1)(h1:P1 x0 x1)(h2:P2 x0 x1):∃x0 x1,P0 x0 x1/\P1 x0 x1/\P2 x0 x1:=⟨x0,x1,h0,h1,h2⟩
theorem PZ{jJ:Sort _}{jR:Sort _}{P0 P1 P2 P3:jJ->jR->Prop}{G:Prop}(h:∃x0 x1,P0 x0 x1/\P1 x0 x1/\P2 x0 x1/\P3 x0 x1)(f:∀x0 x1,P0 x0 x1->P1 x0 x1->P2 x0 x1->P3 x0 x1->G):G:=h.elim λx0 h=>h.elim λx1 h=>f x0 x1 h.1 h.2.1 h.2.2.1 h.2.2.2
theorem Qa{jJ:Sort _}{jR:Sort _}{P0 P1 P2 P3:jJ->jR->Prop}(x0:jJ)(x1:jR)(h0:P0 x0 x1)(h1:P1 x0 x1)(h2:P2 x0 x1)(h3:P3 x0 x1):∃x0 x1,P0 x0 x1/\P1 x0 x1/\P2 x0 x1/\P3 x0 x1:=⟨x0,x1,h0,h1,h2,h3⟩
theorem aeH{jJ:Sort _}{jR:Sort _}{P0 P1 P2 P3 P4:jJ->jR->Prop}{G:Prop}(h:∃x0 x1,P0 x0 x1/\P1 x0 x1/\P2 x0 x1/\P3 x0 x1/\P4 x0 x1)(f:∀x0 x1,P0 x0 x1->P1 x0 x1->P2 x0 x1->P3 x0 x1->P4 x0 x1->G):G:=h.elim λx0 h=>h.elim λx1 h=>f x0 x1 h.1 h.2.1 h.2.2.1 h.2.2.2.1 h.2.2.2.2
theorem Ii{jJ:Sort _}{jR:Sort _}{P0 P1 P2 P3 P4:jJ->jR->Prop}(x0:jJ)(x1:jR)(h0:P0 x0 x1)(h1:P1 x0 x1)(h2:P2 x0 x1)(h3:P3 x0 x1)(h4:P4 x0 x1):∃x0 x1,P0 x0 x1/\P1 x0 x1/\P2 x0 x1/\P3 x0 x1/\P4 x0 x1:=⟨x0,x1,h0,h1,h2,h3,h4⟩
theorem aeI{jJ:Sort _}{jR:Sort _}{P0 P1 P2 P3 P4 P5:jJ->jR->Prop}{G:Prop}(h:∃x0 x1,P0 x0 x1/\P1 x0 x1/\P2 x0 x1/\P3 x0 x1/\P4 x0 x1/\P5 x0 x1)(f:∀x0 x1,P0 x0 x1->P1 x0 x1->P2 x0 x1->P3 x0 x1->P4 x0 x1->P5 x0 x1->G):G:=h.elim λx0 h=>h.elim λx1 h=>f x0 x1 h.1 h.2.1 h.2.2.1 h.2.2.2.1 h.2.2.2.2.1 h.2.2.2.2.2
theorem wF{jJ:Sort _}{jR:Sort _}{P0 P1 P2 P3 P4 P5 P6 P7:jJ->jR->Prop}{G:Prop}(h:∃x0 x1,P0 x0 x1/\P1 x0 x1/\P2 x0 x1/\P3 x0 x1/\P4 x0 x1/\P5 x0 x1/\P6 x0 x1/\P7 x0 x1)(f:∀x0 x1,P0 x0 x1->P1 x0 x1->P2 x0 x1->P3 x0 x1->P4 x0 x1->P5 x0 x1->P6 x0 x1->P7 x0 x1->G):G:=h.elim λx0 h=>h.elim λx1 h=>f x0 x1 h.1 h.2.1 h.2.2.1 h.2.2.2.1 h.2.2.2.2.1 h.2.2.2.2.2.1 h.2.2.2.2.2.2.1 h.2.2.2.2.2.2.2
theorem qY{jJ:Sort _}{jR:Sort _}{lI:Sort _}{P0 P1:jJ->jR->lI->Prop}{G:Prop}(h:∃x0 x1 x2,P0 x0 x1 x2/\P1 x0 x1 x2)(f:∀x0 x1 x2,P0 x0 x1 x2->P1 x0 x1 x2->G):G:=h.elim λx0 h=>h.elim λx1 h=>h.elim λx2 h=>f x0 x1 x2 h.1 h.2
theorem aeJ{jJ:Sort _}{jR:Sort _}{lI:Sort _}{P0 P1:jJ->jR->lI->Prop}(x0:jJ)(x1:jR)(x2:lI)(h0:P0 x0 x1 x2)(h1:P1 x0 x1 x2):∃x0 x1 x2,P0 x0 x1 x2/\P1 x0 x1 x2:=⟨x0,x1,x2,h0,h1⟩
theorem Qc{jJ:Sort _}{jR:Sort _}{lI:Sort _}{P0 P1 P2:jJ->jR->lI->Prop}{G:Prop}(h:∃x0 x1 x2,P0 x0 x1 x2/\P1 x0 x1 x2/\P2 x0 x1 x2)(f:∀x0 x1 x2,P0 x0 x1 x2->P1 x0 x1 x2->P2 x0 x1 x2->G):G:=h.elim λx0 h=>h.elim λx1 h=>h.elim λx2 h=>f x0 x1 x2 h.1 h.2.1 h.2.2
theorem Qd{jJ:Sort _}{jR:Sort _}{lI:Sort _}{P0 P1 P2 P3 P4:jJ->jR->lI->Prop}{G:Prop}(h:∃x0 x1 x2,P0 x0 x1 x2/\P1 x0 x1 x2/\P2 x0 x1 x2/\P3 x0 x1 x2/\P4 x0 x1 x2)(f:∀x0 x1 x2,P0 x0 x1 x2->P1 x0 x1 x2->P2 x0 x1 x2->P3 x0 x1 x2->P4 x0 x1 x2->G):G:=h.elim λx0 h=>h.elim λx1 h=>h.elim λx2 h=>f x0 x1 x2 h.1 h.2.1 h.2.2.1 h.2.2.2.1 h.2.2.2.2
theorem aeK{jJ:Sort _}{jR:Sort _}{lI:Sort _}{P0 P1 P2 P3 P4 P5 P6:jJ->jR->lI->Prop}{G:Prop}(h:∃x0 x1 x2,P0 x0 x1 x2/\P1 x0 x1 x2/\P2 x0 x1 x2/\P3 x0 x1 x2/\P4 x0 x1 x2/\P5 x0 x1 x2/\P6 x0 x1 x2)(f:∀x0 x1 x2,P0 x0 x1 x2->P1 x0 x1 x2->P2 x0 x1 x2->P3 x0 x1 x2->P4 x0 x1 x2->P5 x0 x1 x2->P6 x0 x1 x2->G):G:=h.elim λx0 h=>h.elim λx1 h=>h.elim λx2 h=>f x0 x1 x2 h.1 h.2.1 h.2.2.1 h.2.2.2.1 h.2.2.2.2.1 h.2.2.2.2.2.1 h.2.2.2.2.2.2
theorem Ij{jJ:Sort _}{jR:Sort _}{lI:Sort _}{nh:Sort _}{P0:jJ->jR->lI->nh->Prop}{G:Prop}(h:∃x0 x1 x2 x3,P0 x0 x1 x2 x3)(f:∀x0 x1 x2 x3,P0 x0 x1 x2 x3->G):G:=h.elim λx0 h=>h.elim λx1 h=>h.elim λx2 h=>h.elim λx3 h=>f x0 x1 x2 x3 h
theorem D9{jJ:Sort _}{jR:Sort _}{lI:Sort _}{nh:Sort _}{P0 P1 P2 P3:jJ->jR->lI->nh->Prop}{G:Prop}(h:∃x0 x1 x2 x3,P0 x0 x1 x2 x3/\P1 x0 x1 x2 x3/\P2 x0 x1 x2 x3/\P3 x0 x1 x2 x3)(f:∀x0 x1 x2 x3,P0 x0 x1 x2 x3->P1 x0 x1 x2 x3->P2 x0 x1 x2 x3->P3 x0 x1 x2 x3->G):G:=h.elim λx0 h=>h.elim λx1 h=>h.elim λx2 h=>h.elim λx3 h=>f x0 x1 x2 x3 h.1 h.2.1 h.2.2.1 h.2.2.2
theorem Qe{jJ:Sort _}{jR:Sort _}{lI:Sort _}{nh:Sort _}{P0 P1 P2 P3:jJ->jR->lI->nh->Prop}(x0:jJ)(x1:jR)(x2:lI)(x3:nh)(h0:P0 x0 x1 x2 x3)(h1:P1 x0 x1 x2 x3)(h2:P2 x0 x1 x2 x3)(h3:P3 x0 x1 x2 x3):∃x0 x1 x2 x3,P0 x0 x1 x2 x3/\P1 x0 x1 x2 x3/\P2 x0 x1 x2 x3/\P3 x0 x1 x2 x3:=⟨x0,x1,x2,x3,h0,h1,h2,h3⟩
theorem Qf{jJ:Sort _}{jR:Sort _}{lI:Sort _}{nh:Sort _}{P0 P1 P2 P3 P4 P5 P6:jJ->jR->lI->nh->Prop}{G:Prop}(h:∃x0 x1 x2 x3,P0 x0 x1 x2 x3/\P1 x0 x1 x2 x3/\P2 x0 x1 x2 x3/\P3 x0 x1 x2 x3/\P4 x0 x1 x2 x3/\P5 x0 x1 x2 x3/\P6 x0 x1 x2 x3)(f:∀x0 x1 x2 x3,P0 x0 x1 x2 x3->P1 x0 x1 x2 x3->P2 x0 x1 x2 x3->P3 x0 x1 x2 x3->P4 x0 x1 x2 x3->P5 x0 x1 x2 x3->P6 x0 x1 x2 x3->G):G:=h.elim λx0 h=>h.elim λx1 h=>h.elim λx2 h=>h.elim λx3 h=>f x0 x1 x2 x3 h.1 h.2.1 h.2.2.1 h.2.2.2.1 h.2.2.2.2.1 h.2.2.2.2.2.1 h.2.2.2.2.2.2
theorem aeL{jJ:Sort _}{jR:Sort _}{lI:Sort _}{nh:Sort _}{P0 P1 P2 P3 P4 P5 P6:jJ->jR->lI->nh->Prop}(x0:jJ)(x1:jR)(x2:lI)(x3:nh)(h0:P0 x0 x1 x2 x3)(h1:P1 x0 x1 x2 x3)(h2:P2 x0 x1 x2 x3)(h3:P3 x0 x1 x2 x3)(h4:P4 x0 x1 x2 x3)(h5:P5 x0 x1 x2 x3)(h6:P6 x0 x1 x2 x3):∃x0 x1 x2 x3,P0 x0 x1 x2 x3/\P1 x0 x1 x2 x3/\P2 x0 x1 x2 x3/\P3 x0 x1 x2 x3/\P4 x0 x1 x2 x3/\P5 x0 x1 x2 x3/\P6 x0 x1 x2 x3:=⟨x0,x1,x2,x3,h0,h1,h2,h3,h4,h5,h6⟩
theorem Qg{jJ:Sort _}{jR:Sort _}{lI:Sort _}{nh:Sort _}{P0 P1 P2 P3 P4 P5 P6 P7:jJ->jR->lI->nh->Prop}{G:Prop}(h:∃x0 x1 x2 x3,P0 x0 x1 x2 x3/\P1 x0 x1 x2 x3/\P2 x0 x1 x2 x3/\P3 x0 x1 x2 x3/\P4 x0 x1 x2 x3/\P5 x0 x1 x2 x3/\P6 x0 x1 x2 x3/\P7 x0 x1 x2 x3)(f:∀x0 x1 x2 x3,P0 x0 x1 x2 x3->P1 x0 x1 x2 x3->P2 x0 x1 x2 x3->P3 x0 x1 x2 x3->P4 x0 x1 x2 x3->P5 x0 x1 x2 x3->P6 x0 x1 x2 x3->P7 x0 x1 x2 x3->G):G:=h.elim λx0 h=>h.elim λx1 h=>h.elim λx2 h=>h.elim λx3 h=>f x0 x1 x2 x3 h.1 h.2.1 h.2.2.1 h.2.2.2.1 h.2.2.2.2.1 h.2.2.2.2.2.1 h.2.2.2.2.2.2.1 h.2.2.2.2.2.2.2
theorem aeM{jJ:Sort _}{jR:Sort _}{lI:Sort _}{nh:Sort _}{P0 P1 P2 P3 P4 P5 P6 P7:jJ->jR->lI->nh->Prop}(x0:jJ)(x1:jR)(x2:lI)(x3:nh)(h0:P0 x0 x1 x2 x3)(h1:P1 x0 x1 x2 x3)(h2:P2 x0 x1 x2 x3)(h3:P3 x0 x1 x2 x3)(h4:P4 x0 x1 x2 x3)(h5:P5 x0 x1 x2 x3)(h6:P6 x0 x1 x2 x3)(h7:P7 x0 x1 x2 x3):∃x0 x1 x2 x3,P0 x0 x1 x2 x3/\P1 x0 x1 x2 x3/\P2 x0 x1 x2 x3/\P3 x0 x1 x2 x3/\P4 x0 x1 x2 x3/\P5 x0 x1 x2 x3/\P6 x0 x1 x2 x3/\P7 x0 x1 x2 x3:=⟨x0,x1,x2,x3,h0,h1,h2,h3,h4,h5,h6,h7⟩
theorem Ik{jJ:Sort _}{jR:Sort _}{lI:Sort _}{nh:Sort _}{wG:Sort _}{wH:Sort _}{P0:jJ->jR->lI->nh->wG->wH->Prop}{G:Prop}(h:∃x0 x1 x2 x3 x4 x5,P0 x0 x1 x2 x3 x4 x5)(f:∀x0 x1 x2 x3 x4 x5,P0 x0 x1 x2 x3 x4 x5->G):G:=h.elim λx0 h=>h.elim λx1 h=>h.elim λx2 h=>h.elim λx3 h=>h.elim λx4 h=>h.elim λx5 h=>f x0 x1 x2 x3 x4 x5 h
theorem aeN{jJ:Sort _}{jR:Sort _}{lI:Sort _}{nh:Sort _}{wG:Sort _}{wH:Sort _}{zv:Sort _}{zx:Sort _}{P0:jJ->jR->lI->nh->wG->wH->zv->zx->Prop}{G:Prop}(h:∃x0 x1 x2 x3 x4 x5 x6 x7,P0 x0 x1 x2 x3 x4 x5 x6 x7)(f:∀x0 x1 x2 x3 x4 x5 x6 x7,P0 x0 x1 x2 x3 x4 x5 x6 x7->G):G:=h.elim λx0 h=>h.elim λx1 h=>h.elim λx2 h=>h.elim λx3 h=>h.elim λx4 h=>h.elim λx5 h=>h.elim λx6 h=>h.elim λx7 h=>f x0 x1 x2 x3 x4 x5 x6 x7 h
theorem zy{jJ:Sort _}{jR:Sort _}{lI:Sort _}{nh:Sort _}{wG:Sort _}{wH:Sort _}{zv:Sort _}{zx:Sort _}{Ea:Sort _}{P0 P1 P2:jJ->jR->lI->nh->wG->wH->zv->zx->Ea->Prop}{G:Prop}(h:∃x0 x1 x2 x3 x4 x5 x6 x7 x8,P0 x0 x1 x2 x3 x4 x5 x6 x7 x8/\P1 x0 x1 x2 x3 x4 x5 x6 x7 x8/\P2 x0 x1 x2 x3 x4 x5 x6 x7 x8)(f:∀x0 x1 x2 x3 x4 x5 x6 x7 x8,P0 x0 x1 x2 x3 x4 x5 x6 x7 x8->P1 x0 x1 x2 x3 x4 x5 x6 x7 x8->P2 x0 x1 x2 x3 x4 x5 x6 x7 x8->G):G:=h.elim λx0 h=>h.elim λx1 h=>h.elim λx2 h=>h.elim λx3 h=>h.elim λx4 h=>h.elim λx5 h=>h.elim λx6 h=>h.elim λx7 h=>h.elim λx8 h=>f x0 x1 x2 x3 x4 x5 x6 x7 x8 h.1 h.2.1 h.2.2
theorem aeO{jJ:Sort _}{jR:Sort _}{lI:Sort _}{nh:Sort _}{wG:Sort _}{wH:Sort _}{zv:Sort _}{zx:Sort _}{Ea:Sort _}{P0 P1 P2:jJ->jR->lI->nh->wG->wH->zv->zx->Ea->Prop}(x0:jJ)(x1:jR)(x2:lI)(x3:nh)(x4:wG)(x5:wH)(x6:zv)(x7:zx)(x8:Ea)(h0:P0 x0 x1 x2 x3 x4 x5 x6 x7 x8)(h1:P1 x0 x1 x2 x3 x4 x5 x6 x7 x8)(h2:P2 x0 x1 x2 x3 x4 x5 x6 x7 x8):∃x0 x1 x2 x3 x4 x5 x6 x7 x8,P0 x0 x1 x2 x3 x4 x5 x6 x7 x8/\P1 x0 x1 x2 x3 x4 x5 x6 x7 x8/\P2 x0 x1 x2 x3 x4 x5 x6 x7 x8:=⟨x0,x1,x2,x3,x4,x5,x6,x7,x8,h0,h1,h2⟩
theorem xn{α:Type _}{a:α}{G:Prop}(h:none=some a):G:=nomatch h
theorem xm{α:Type _}{a:α}{G:Prop}(h:some a=none):G:=nomatch h
theorem xf{G:Prop}(h:false=true):G:=nomatch h
theorem xg{G:Prop}(h:true=false):G:=nomatch h
theorem xs{α:Type _}{a b:α}{G:Prop}(h:some a=some b)(f:a=b->G):G:=f (ai h)
theorem xp{α β:Type _}{a c:α}{b d:β}{G:Prop}(h:some (a,b)=some (c,d))(f:a=c->b=d->G):G:=by cases h;exact f rfl rfl
set_option backward.match.sparseCases false
noncomputable section
noncomputable abbrev pw:Program:=PySem.Challenge.pw_sm0034_01
noncomputable abbrev I(n:Int):Value:=.int n 0
noncomputable abbrev R(a:Nat):Value:=.ref a
noncomputable abbrev S(s:Str)(t:Nat):Value:=.str s t
noncomputable abbrev Z(t:Nat):Value:=.str "/claim/cut.py" t
noncomputable abbrev tO:Value:=.type "object"
noncomputable abbrev en(P:Params)(s:Str)(t:Nat)(v:Value):DictEntry:=⟨fQ P s,.str s t,v⟩
noncomputable abbrev tp(l:List Value):Obj:=⟨.type "tuple",none,.seq l.toArray 0,#[]⟩
noncomputable abbrev cO(l:List Value):Obj:=⟨.type "code",none,.fields l.toArray,#[]⟩
noncomputable abbrev pW(l:List Value):Obj:=⟨.none,none,.fields l.toArray,#[]⟩
def Qh(d:Nat):List Nat->List Value
|a::b::r=>I a::I d::R b::Qh d r
|_=>[]
abbrev tr(d:Nat)(l:List Nat):Obj:=pW (Qh d l)
noncomputable abbrev qj(f:FuncData):Obj:=⟨.type "function",none,.func f,#[]⟩
noncomputable abbrev qZ(f:FuncData):Obj:=⟨.none,none,.func f,#[]⟩
noncomputable abbrev dO(n:Nat)(l:List DictEntry):Obj:=⟨.type "dict",none,.dict l.toArray n,#[]⟩
noncomputable abbrev fo(s:String)(l:List Value):Obj:=⟨.type s,none,.fields l.toArray,#[]⟩
abbrev bm(s:String)(v:Value):Obj:=fo "builtin_function_or_method" [.builtin s,v]
abbrev fr(a b:Nat)(v:Value):Obj:=⟨.type "frame",none,.plain,[some (R a),some (R 3),some (R b),none,some v,none,some (R 0)].toArray⟩
abbrev ty(n:Str)(b m:List Value)(ns:Nat)(sb:List Value)(x:Option Value)(t u:Nat):Obj:=⟨.type "type",none,.cls { name:=n,bases:=b,mro:=m,ns:=ns,qualname:=n,hasDict:=true,slotNames:=[],subclasses:=sb,abstract:=false,collection:=none,hasDel:=false },[x,none,some (S n t),some (S n u),some (.builtin "object.__new__"),some (.bool true)].toArray⟩
abbrev cc(n:Str)(t ln a:Nat):Obj:=cO [S n t,S n (t+1),Z (t+2),I ln,I 0,I 0,I 0,I 0,R a,.bool false,I 181,R (a+1),.none,.none,.none,.none,I (t+3:Nat),I ln,Z (t+4)]
def dA(i:Nat):Stmt:=(behindTheImports pw).getD i (.Pass default)
def mA(i j:Nat):Stmt:=match dA i with
|.ClassDef _ _ _ b _ _ _ _ _ _ _=>b.getD j (.Pass default)
|_=>.Pass default
noncomputable def fD(st:Stmt)(qual:Str)(dV kV doc pm:Value)(an:Option Addr)(cd ct:Value)(gl bl:Addr):FuncData:=match st with
|.FunctionDef n a b _ _ _ sc _ _ _=>{ name:=n,qualname:=qual,params:=a,body:=.stmts b,scope:=sc,globals:=gl,closure:=[],defaults:=dV,kwdefaults:=kV,doc:=doc,pyModule:=pm,annotations:=an,code:=cd,closureTuple:=ct,builtins:=bl }
|_=>default
def vn:Nat->List Str->List Value
|_,[]=>[]
|t,s::r=>S s t::vn (t+1) r
def ff(a t:Nat)(st:Stmt)(n q:Str)(ln na:Nat)(vs:List Str)(df mo:Value):List Obj:=
 [tp [],pW [],tp (vn (t+3) vs),tp [],qZ (fD st q .none .none .none .none none .none .none 0 0),
  cO [S n t,S q (t+1),Z (t+2),I ln,I na,I 0,I 0,I 3,R a,.bool true,I 181,R (a+1),.none,R (a+2),R (a+3),R (a+4),I (t+3+vs.length:Nat),I ln,Z (t+4+vs.length)],
  qj (fD st q df .none .none mo none (R (a+5)) .none 3 0)]
abbrev fd(a t:Nat)(st:Stmt)(n:Str):=ff a t st n n
structure Kl where
 a:Nat
 t:Nat
 ln:Nat
 u:Nat
 f:Nat
 n:Str
 m:Value
 ms:List (Str×Nat×Nat×Nat)
noncomputable abbrev qm(s:Str)(x y z:Nat):Str×Nat×Nat×Nat:=(s,x,y,z)
def me(P:Params)(k:Kl)(l:List DictEntry):List DictEntry:=(k.ms.map λx=>en P x.1 x.2.1 (R x.2.2.1))++en P "__static_attributes__" k.u (R k.f)::l
noncomputable def tm:List (Str×Nat×Nat×Nat)->List Nat
|[]=>[]
|x::r=>x.2.2.2::(x.2.2.1 - 1)::tm r
def hd(P:Params)(k:Kl)(b:List Value):List Obj:=[tp b,bm "type.__prepare__" (.type "type"),dO (4+k.ms.length) (en P "__module__" (k.t+5) k.m::en P "__qualname__" (k.t+7) (S k.n (k.t+6))::en P "__firstlineno__" (k.t+9) (.int k.ln (k.t+8))::me P k []),tp [],tr 4 (tm k.ms),cc k.n k.t k.ln (k.a+3),fr (k.a+5) (k.a+2) k.m]
def fp(P:Params)(k:Kl)(s:List Str)(n:Nat)(l:List DictEntry)(b m sb:List Value)(x:Option Value):List Obj:=[tp (vn (k.u - s.length) s),dO n (en P "__module__" (k.t+5) k.m::en P "__firstlineno__" (k.t+9) (.int k.ln (k.t+8))::me P k l),ty k.n b (R (k.f+2)::m) (k.f+1) sb x (k.t - 2) (k.t+6)]
def fq(k:Kl):List Obj:=[fo "super" [R (k.f+2),R (k.f+2),R (k.f+2)],bm "object.__init_subclass__" (R (k.f+2))]
def fb(P:Params)(k:Kl)(s:List Str)(sb:List Value):List Obj:=fp P k s 4 [en P "__dict__" (k.u+2) (R (k.f+3)),en P "__weakref__" (k.u+4) (R (k.f+4)),en P "__doc__" (k.u+5) .none] [tO] [tO] sb none++fo "getset_descriptor" [S "__dict__" (k.u+1),R (k.f+2),.builtin "function.__dict__",.builtin "function.__dict__#set"]::fo "getset_descriptor" [S "__weakref__" (k.u+3),R (k.f+2),.builtin "ExceptionGroup.__weakref__",.none]::fq k
def fv(P:Params)(k:Kl)(b:Value)(s:List Str):List Obj:=fp P k s 2 [en P "__doc__" (k.u+1) .none] [b] [b,tO] [] (some (R k.a))++fq k
abbrev M0:Value:=S "gemrows.things" 194
abbrev M1:Value:=S "gemrows.lines" 615
abbrev M2:Value:=S "gemrows.machine" 819
abbrev M3:Value:=S "gemrows.machinecalls" 940
abbrev M4:Value:=S "gemrows.errors" 1006
abbrev M5:Value:=S "gemrows.walk" 1061
abbrev M6:Value:=S "gemrows.world" 1348
abbrev M7:Value:=S "law_sm0034_01" 1873
def k0:Kl:=⟨22,202,7,227,36,"Thing",M0,[qm "__init__" 220 35 9]⟩
def k1:Kl:=⟨43,237,16,259,58,"Text",M0,[qm "__init__" 257 57 18]⟩
def k2:Kl:=⟨63,265,21,286,78,"ListThing",M0,[qm "__init__" 284 77 23]⟩
def k3:Kl:=⟨83,292,26,338,116,"TableThing",M0,[qm "__init__" 310 96 28,qm "put" 321 103 33,qm "row" 329 110 41,qm "pairs" 335 115 44]⟩
def k4:Kl:=⟨121,344,46,369,136,"RangeThing",M0,[qm "__init__" 365 135 48]⟩
def k5:Kl:=⟨141,375,53,412,157,"ProcThing",M0,[qm "__init__" 402 156 55]⟩
def k6:Kl:=⟨162,418,66,440,177,"ErrorThing",M0,[qm "__init__" 437 176 68]⟩
def k7:Kl:=⟨182,446,72,470,197,"FiberThing",M0,[qm "__init__" 465 196 74]⟩
def k8:Kl:=⟨202,476,80,517,224,"ModuleThing",M0,[qm "__init__" 498 216 82,qm "is_own" 505 223 96]⟩
def k9:Kl:=⟨229,523,98,567,252,"Entry",M0,[qm "__init__" 546 243 100,qm "moved" 557 251 111]⟩
def Qi:Kl:=⟨324,676,207,686,331,"GivenEntry",M1,[]⟩
def Qj:Kl:=⟨427,823,281,870,449,"Call",M2,[qm "__init__" 848 441 283,qm "copy_for" 858 448 296]⟩
def Qk:Kl:=⟨456,880,298,932,484,"Frame",M2,[qm "__init__" 901 469 300,qm "pop" 910 476 314,qm "is_meant" 919 483 321]⟩
def Ql:Kl:=⟨491,944,324,987,513,"Sent",M3,[qm "__init__" 968 505 326,qm "renamed" 978 512 336]⟩
def k14:Kl:=⟨527,1010,346,1030,542,"GemError",M4,[qm "__init__" 1028 541 348]⟩
def k15:Kl:=⟨548,1038,351,1057,562,"Raised",M4,[qm "__init__" 1055 561 353]⟩
def Qm:Kl:=⟨574,1075,367,1098,589,"Way",M5,[qm "__init__" 1094 588 369]⟩
def Qn:Kl:=⟨596,1108,373,1158,631,"Env",M5,[qm "__init__" 1127 609 375,qm "holder" 1136 616 380,qm "get" 1145 623 386,qm "set" 1154 630 390]⟩
def Qo:Kl:=⟨638,1168,392,1196,653,"Task",M5,[qm "__init__" 1188 652 394]⟩
def Qp:Kl:=⟨660,1206,402,1326,752,"Walker",M5,[qm "__init__" 1225 673 404,qm "enter" 1233 680 412,qm "go" 1242 687 415,qm "send" 1256 695 418,qm "done" 1264 702 421,qm "leave" 1272 709 424,qm "deliver" 1280 716 428,qm "going" 1288 723 431,qm "raise_error" 1296 730 434,qm "fail" 1305 737 438,qm "step" 1312 744 441,qm "run" 1319 751 444]⟩
def Qq:Kl:=⟨779,1501,461,1865,1052,"World",M6,[qm "__init__" 1523 793 463,qm "tick" 1530 800 484,qm "write" 1538 807 487,qm "number" 1545 814 490,qm "next_ident" 1552 821 494,qm "ident" 1561 828 498,qm "builtin" 1570 835 514,qm "make_builtin" 1576 840 518,qm "give_own" 1584 847 531,qm "new_module" 1599 855 535,qm "class_of" 1607 862 544,qm "own_of" 1615 869 553,qm "own_behind" 1624 876 560,qm "root_of" 1632 883 568,qm "real_class" 1640 890 573,qm "text" 1648 897 578,qm "list_of" 1656 904 581,qm "table_of" 1664 911 584,qm "key_of" 1672 918 587,qm "range_of" 1682 925 590,qm "proc" 1699 932 593,qm "thing" 1709 939 597,qm "is_error_class" 1717 946 623,qm "spread" 1725 953 630,qm "numbers_of" 1733 960 633,qm "need_size" 1741 967 636,qm "sized_text" 1749 974 639,qm "error" 1758 981 642,qm "fail" 1767 988 645,qm "need_thawed" 1775 995 648,qm "set_field" 1785 1002 651,qm "describe" 1793 1009 654,qm "own_constant" 1802 1016 657,qm "find_constant" 1811 1023 660,qm "constant" 1820 1030 663,qm "find_in" 1829 1037 666,qm "constant_in" 1838 1044 669,qm "set_constant" 1848 1051 672]⟩
def ge(P:Params):List DictEntry:=
 [en P "__doc__" 166 .none,
 en P "__package__" 167 .none,
 en P "__loader__" 168 (.builtin "__main__.__loader__#opaque"),
 en P "__spec__" 169 .none,
 en P "__annotations__" 170 (R 6),
 en P "__builtins__" 171 (R 4),
 en P "__file__" 173 (Z 172),
 en P "__cached__" 174 .none,
 en P "_wall" 193 (R 21),
 en P "DEEPEST_KEY" 197 (.int (12) 196),
 en P "MOST_SEEN" 199 (.int (20000) 198),
 en P "Thing" 234 (R 38),
 en P "Text" 262 (R 60),
 en P "ListThing" 289 (R 80),
 en P "TableThing" 341 (R 118),
 en P "RangeThing" 372 (R 138),
 en P "ProcThing" 415 (R 159),
 en P "ErrorThing" 443 (R 179),
 en P "FiberThing" 473 (R 199),
 en P "ModuleThing" 520 (R 226),
 en P "Entry" 574 (R 254),
 en P "sort_of" 581 (R 265),
 en P "same" 590 (R 272),
 en P "takes_in" 598 (R 279),
 en P "code_of" 604 (R 285),
 en P "full_name" 614 (R 292),
 en P "has_thing" 625 (R 299),
 en P "own_line" 631 (R 304),
 en P "numbered" 637 (R 309),
 en P "made_line" 643 (R 314),
 en P "line_of" 654 (R 321),
 en P "PRIVATE_NAMES" 659 (R 322),
 en P "PRIVATE_KERNEL" 673 (R 323),
 en P "GivenEntry" 689 (R 333),
 en P "sight_of" 697 (R 342),
 en P "given_entry" 714 (R 349),
 en P "entry_at" 724 (R 356),
 en P "first_entry" 736 (R 363),
 en P "find" 745 (R 370),
 en P "raise_version" 752 (R 377),
 en P "own_module" 762 (R 384),
 en P "class_above" 769 (R 391),
 en P "make_own" 779 (R 398),
 en P "copied" 787 (R 405),
 en P "is_a" 796 (R 412),
 en P "respond" 807 (R 419),
 en P "may_send" 818 (R 426),
 en P "Call" 877 (R 451),
 en P "Frame" 939 (R 486),
 en P "Sent" 994 (R 515),
 en P "is_hidden" 1005 (R 526),
 en P "GemError" 1035 (R 544),
 en P "Raised" 1060 (R 564),
 en P "give_cause" 1072 (R 573),
 en P "Way" 1105 (R 591),
 en P "Env" 1165 (R 633),
 en P "Task" 1203 (R 655),
 en P "Walker" 1333 (R 754),
 en P "refusal" 1347 (R 765),
 en P "MODULES" 1353 (R 766),
 en P "BUILTINS" 1470 (R 767),
 en P "MIXED" 1492 (R 770),
 en P "UNMADE" 1498 (R 778),
 en P "World" 1872 (R 1054),
 en P "_law_above" 1880 (R 1065),
 en P "_law_within" 1886 (R 1072),
 en P "_law_counted" 1892 (R 1079),
 en P "_law_who" 1898 (R 1086),
 en P "_law_heads" 1904 (R 1093),
 en P "_law_senders" 1910 (R 1100),
 en P "_law_well" 1920 (R 1107),
 en P "_law_draw" 1930 (R 1114),
 en P "_law_single" 1941 (R 1121),
 en P "_law_mixed" 1947 (R 1126),
 en P "_law_entries" 1964 (R 1133),
 en P "_law_books" 1976 (R 1140),
 en P "_law_made" 1982 (R 1145),
 en P "_law_circle" 1992 (R 1152),
 en P "_law_line" 1998 (R 1157),
 en P "_law_found" 2004 (R 1162),
 en P "_law_agreed" 2010 (R 1167),
 en P "law" 2016 (R 1172)]
def gO(P:Params)(k:Nat)(v:Value):Obj:=dO (k+1) (en P "__name__" 165 v::(ge P).take k)
def o3(P:Params):Obj:=gO P 82 M7
noncomputable def tn:List Nat:=[1,20,7,27,16,48,21,68,26,88,46,126,53,146,66,167,72,187,80,207,98,234,117,264,125,271,130,278,135,284,150,291,166,298,171,303,183,308,185,313,195,320,207,329,209,341,213,348,226,355,233,362,243,369,245,376,247,383,259,390,261,397,268,404,270,411,272,418,275,425,281,432,298,461,324,496,338,525,346,532,351,553,357,572,367,579,373,601,392,643,402,665,447,764,461,784,675,1064,677,1071,679,1078,681,1085,683,1092,685,1099,687,1106,694,1113,702,1120,718,1125,726,1132,739,1139,750,1144,774,1151,782,1156,792,1161,799,1166,821,1171]
def ch0(P:Params):List Obj:=
 [boot_o_0 P,boot_o_1 P,boot_o_2 P,o3 P,boot_o_4 P,boot_o_5 P,boot_o_6 P,boot_o_7 P,boot_o_8 P,boot_o_9 P,boot_o_10 P,tp [],tr 0 tn,cO [(S "<module>" 182),(S "<module>" 183),(Z 184),(I 1),(I 0),(I 0),(I 0),(I 0),(R 11),(.bool false),(I 181),(R 12),.none,.none,.none,.none,(I 185),(I 1),(Z 186)],fr 13 3 (S "__main__" 164)] ++
 fd 15 187 (dA 0) "_wall" 1 1 ["k"] .none (S "__main__" 164) ++
 hd P k0 [] ++
 ff 29 212 (mA 4 0) "__init__" "Thing.__init__" 9 3 ["self","number","owner"] .none M0 ++
 fb P k0 ["fields","frozen","ident","number","own","owner"] [(R 60),(R 80),(R 118),(R 138),(R 159),(R 179),(R 199),(R 226)] ++
 hd P k1 [(R 38)] ++
 [tp [(S "" 247)]] ++
 ff 51 248 (mA 5 0) "__init__" "Text.__init__" 18 4 ["self","number","owner","text"] (R 50) M0 ++
 fv P k1 (R 38) ["text"] ++
 hd P k2 [(R 38)] ++
 [tp [.none]] ++
 ff 71 275 (mA 6 0) "__init__" "ListThing.__init__" 23 4 ["self","number","owner","items"] (R 70) M0 ++
 fv P k2 (R 38) ["items"] ++
 hd P k3 [(R 38)] ++
 ff 90 302 (mA 7 0) "__init__" "TableThing.__init__" 28 3 ["self","number","owner"] .none M0 ++
 ff 97 311 (mA 7 1) "put" "TableThing.put" 33 3 ["self","key","value","code","row"] .none M0 ++
 ff 104 322 (mA 7 2) "row" "TableThing.row" 41 2 ["self","key"] .none M0 ++
 [tp [],pW [],qZ (fD (mA 7 3) "TableThing.pairs" .none .none .none .none none .none .none 0 0),cO [(S "pairs" 330),(S "TableThing.pairs" 331),(Z 332),(I 44),(I 1),(I 0),(I 0),(I 3),(R 111),(.bool true),(I 181),(R 112),.none,.none,.none,(R 113),(I 333),(I 44),(Z 334)],qj (fD (mA 7 3) "TableThing.pairs" .none .none .none M0 none (R 114) .none 3 0)] ++
 fv P k3 (R 38) ["rows","spare"] ++
 hd P k4 [(R 38)] ++
 [tp [.none,.none,(.bool false)]] ++
 ff 129 354 (mA 8 0) "__init__" "RangeThing.__init__" 48 6 ["self","number","owner","first","last","is_open"] (R 128) M0 ++
 fv P k4 (R 38) ["first","last","open"] ++
 hd P k5 [(R 38)]
def ch1(P:Params):List Obj:=
 [tp [],tp [.none,.none,.none,.none,(R 148),.none,.none,(.bool false),.none]] ++
 ff 150 385 (mA 9 0) "__init__" "ProcThing.__init__" 55 12 ["self","number","owner","params","body","env","self_value","nesting","home","site","is_lambda","definer"] (R 149) M0 ++
 fv P k5 (R 38) ["body","definer","env","home","is_lambda","nesting","params","self_value","site"] ++
 hd P k6 [(R 38)] ++
 [tp [.none]] ++
 ff 170 428 (mA 10 0) "__init__" "ErrorThing.__init__" 68 4 ["self","number","owner","message"] (R 169) M0 ++
 fv P k6 (R 38) ["cause","message"] ++
 hd P k7 [(R 38)] ++
 [tp [.none]] ++
 ff 190 456 (mA 11 0) "__init__" "FiberThing.__init__" 74 4 ["self","number","owner","proc"] (R 189) M0 ++
 fv P k7 (R 38) ["back","proc","rows","state"] ++
 hd P k8 [(R 38)] ++
 [tp [.none,(.bool false),.none,.none]] ++
 ff 210 486 (mA 12 0) "__init__" "ModuleThing.__init__" 82 7 ["self","number","owner","name","is_class","parent","outer"] (R 209) M0 ++
 ff 217 499 (mA 12 1) "is_own" "ModuleThing.is_own" 96 1 ["self"] .none M0 ++
 fv P k8 (R 38) ["ahead","attached","constants","is_class","kept","methods","mixed","name","native","outer","parent"] ++
 hd P k9 [] ++
 [tp [.none,.none,(S "public" 533)]] ++
 ff 237 534 (mA 13 0) "__init__" "Entry.__init__" 100 7 ["self","name","owner","sort","params","body","sight"] (R 236) M0 ++
 [tp [.none]] ++
 ff 245 547 (mA 13 1) "moved" "Entry.moved" 111 4 ["self","name","owner","sight","found"] (R 244) M0 ++
 fb P k9 ["body","code","definer","name","nesting","owner","params","sight","sort"] [(R 333)] ++
 fd 259 575 (dA 14) "sort_of" 117 1 ["value"] .none M0 ++
 fd 266 582 (dA 15) "same" 125 2 ["one","other","sort"] .none M0
def ch2(P:Params):List Obj:=
 fd 273 591 (dA 16) "takes_in" 130 2 ["room","many"] .none M0 ++
 [tp [(.int (12) 196),.none],tp [],pW [],qZ (fD (dA 17) "code_of" .none .none .none .none none .none .none 0 0),cO [(S "code_of" 599),(S "code_of" 600),(Z 601),(I 135),(I 3),(I 0),(I 0),(I 3),(R 281),(.bool true),(I 181),(R 282),.none,.none,.none,(R 283),(I 602),(I 135),(Z 603)],qj (fD (dA 17) "code_of" (R 280) .none .none M0 none (R 284) .none 3 0)] ++
 fd 286 605 (dA 18) "full_name" 150 1 ["module","ahead","behind","met"] .none M0 ++
 fd 293 617 (dA 20) "has_thing" 166 2 ["things","one","thing"] .none M1 ++
 [tp [],pW [],qZ (fD (dA 21) "own_line" .none .none .none .none none .none .none 0 0),cO [(S "own_line" 626),(S "own_line" 627),(Z 628),(I 171),(I 1),(I 0),(I 0),(I 3),(R 300),(.bool true),(I 181),(R 301),.none,.none,.none,(R 302),(I 629),(I 171),(Z 630)],qj (fD (dA 21) "own_line" .none .none .none M1 none (R 303) .none 3 0),tp [],pW [],qZ (fD (dA 22) "numbered" .none .none .none .none none .none .none 0 0),cO [(S "numbered" 632),(S "numbered" 633),(Z 634),(I 183),(I 1),(I 0),(I 0),(I 3),(R 305),(.bool true),(I 181),(R 306),.none,.none,.none,(R 307),(I 635),(I 183),(Z 636)],qj (fD (dA 22) "numbered" .none .none .none M1 none (R 308) .none 3 0),tp [],pW [],qZ (fD (dA 23) "made_line" .none .none .none .none none .none .none 0 0),cO [(S "made_line" 638),(S "made_line" 639),(Z 640),(I 185),(I 2),(I 0),(I 0),(I 3),(R 310),(.bool true),(I 181),(R 311),.none,.none,.none,(R 312),(I 641),(I 185),(Z 642)],qj (fD (dA 23) "made_line" .none .none .none M1 none (R 313) .none 3 0)] ++
 fd 315 644 (dA 24) "line_of" 195 2 ["world","module","waiting","line","one"] .none M1 ++
 [tp [(S "initialize" 655),(S "initialize_copy" 656),(S "method_missing" 657),(S "respond_to_missing?" 658)],tp [(S "puts" 660),(S "print" 661),(S "p" 662),(S "raise" 663),(S "loop" 664),(S "catch" 665),(S "throw" 666),(S "proc" 667),(S "lambda" 668),(S "block_given?" 669),(S "Array" 670),(S "Integer" 671),(S "__write" 672)]] ++
 hd P Qi [(R 254)] ++
 fv P Qi (R 254) [] ++
 fd 336 690 (dA 28) "sight_of" 209 2 ["module","name"] .none M1 ++
 fd 343 698 (dA 29) "given_entry" 213 3 ["world","module","name","body","sort","source","node","singleton","told","params","tree"] .none M1 ++
 fd 350 715 (dA 30) "entry_at" 226 3 ["world","module","name","found"] .none M1 ++
 fd 357 725 (dA 31) "first_entry" 233 3 ["world","line","name","sight","module","found"] .none M1 ++
 fd 364 737 (dA 32) "find" 243 3 ["world","module","name"] .none M1 ++
 fd 371 746 (dA 33) "raise_version" 245 1 ["world"] .none M1 ++
 fd 378 753 (dA 34) "own_module" 247 2 ["world","value","waiting","one"] .none M1 ++
 fd 385 763 (dA 35) "class_above" 259 1 ["value"] .none M1 ++
 fd 392 770 (dA 36) "make_own" 261 2 ["world","value","above","parent"] .none M1 ++
 fd 399 780 (dA 37) "copied" 268 2 ["entry","sight"] .none M1 ++
 fd 406 788 (dA 38) "is_a" 270 3 ["world","value","module"] .none M1 ++
 fd 413 797 (dA 39) "respond" 272 4 ["world","value","name","everything","found"] .none M1 ++
 fd 420 808 (dA 40) "may_send" 275 4 ["world","sender","value","name","found"] .none M1 ++
 hd P Qj [] ++
 [tp [(.bool false)]]
def ch3(P:Params):List Obj:=
 ff 435 833 (mA 42 0) "__init__" "Call.__init__" 283 10 ["self","self_value","entry","args","block","number","nesting","definer","sort","is_lambda"] (R 434) M2 ++
 ff 442 849 (mA 42 1) "copy_for" "Call.copy_for" 296 4 ["self","self_value","nesting","definer"] .none M2 ++
 fb P Qj ["args","block","definer","entry","is_lambda","nesting","number","scope","self_value","sight","sort"] [] ++
 hd P Qk [] ++
 ff 463 890 (mA 43 0) "__init__" "Frame.__init__" 300 6 ["self","code","pc","stack","scope","call"] .none M2 ++
 ff 470 902 (mA 43 1) "pop" "Frame.pop" 314 2 ["self","count","found"] .none M2 ++
 ff 477 911 (mA 43 2) "is_meant" "Frame.is_meant" 321 3 ["self","sort","tag"] .none M2 ++
 fb P Qk ["after","call","code","held","number","pc","proc","scope","sight","stack","tag","waits"] [] ++
 hd P Ql [] ++
 [tp [.none,(S "call" 954),.none,.none]] ++
 ff 499 955 (mA 45 0) "__init__" "Sent.__init__" 326 8 ["self","receiver","name","args","block","kind","after","held"] (R 498) M3 ++
 ff 506 969 (mA 45 1) "renamed" "Sent.renamed" 336 4 ["self","name","args","kind"] .none M3 ++
 fb P Ql ["after","args","block","held","is_written","kind","name","receiver"] [] ++
 fd 520 995 (dA 46) "is_hidden" 338 4 ["machine","frame","sent","entry","owner"] .none M3 ++
 hd P k14 [(.type "ValueError")] ++
 [tp [(S "" 1020)]] ++
 ff 535 1021 (mA 48 0) "__init__" "GemError.__init__" 348 2 ["self","reason"] (R 534) M4 ++
 [tp [(S "reason" 1029)],dO 3 [en P "__module__" 1015 M4,en P "__firstlineno__" 1019 (.int (346) 1018),en P "__init__" 1028 (R 541),en P "__static_attributes__" 1030 (R 542),en P "__weakref__" 1032 (R 545),en P "__doc__" 1033 .none],⟨(.type "type"),none,(.cls { name:="GemError",bases:=[(.type "ValueError")],mro:=[(R 544),(.type "ValueError"),(.type "Exception"),(.type "BaseException"),tO],ns:=543,qualname:="GemError",hasDict:=true,slotNames:=[],subclasses:=[(R 564)],abstract:=false,collection:=none,hasDel:=false }),[(some (R 527)),none,(some (S "GemError" 1008)),(some (S "GemError" 1016)),(some (.builtin "ValueError.__new__")),(some (.bool true))].toArray⟩,fo "getset_descriptor" [(S "__weakref__" 1031),(R 544),(.builtin "ExceptionGroup.__weakref__"),.none],fo "super" [(R 544),(R 544),(R 544)],bm "object.__init_subclass__" (R 544)] ++
 hd P k15 [(R 544)] ++
 ff 555 1048 (mA 49 0) "__init__" "Raised.__init__" 353 2 ["self","thing"] .none M4 ++
 [tp [(S "thing" 1056)],dO 2 [en P "__module__" 1043 M4,en P "__firstlineno__" 1047 (.int (351) 1046),en P "__init__" 1055 (R 561),en P "__static_attributes__" 1057 (R 562),en P "__doc__" 1058 .none],⟨(.type "type"),none,(.cls { name:="Raised",bases:=[(R 544)],mro:=[(R 564),(R 544),(.type "ValueError"),(.type "Exception"),(.type "BaseException"),tO],ns:=563,qualname:="Raised",hasDict:=true,slotNames:=[],subclasses:=[],abstract:=false,collection:=none,hasDel:=false }),[(some (R 548)),none,(some (S "Raised" 1036)),(some (S "Raised" 1044)),(some (.builtin "ValueError.__new__")),(some (.bool true))].toArray⟩,fo "super" [(R 564),(R 564),(R 564)],bm "object.__init_subclass__" (R 564)] ++
 fd 567 1063 (dA 51) "give_cause" 357 2 ["world","thing","before","here"] .none M5 ++
 hd P Qm [] ++
 [tp [.none,.none]]
def ch4(P:Params):List Obj:=
 ff 582 1085 (mA 52 0) "__init__" "Way.__init__" 369 4 ["self","sort","value","tag"] (R 581) M5 ++
 fb P Qm ["sort","tag","value"] [] ++
 hd P Qn [] ++
 ff 603 1118 (mA 53 0) "__init__" "Env.__init__" 375 4 ["self","names","outer","call"] .none M5 ++
 ff 610 1128 (mA 53 1) "holder" "Env.holder" 380 2 ["self","name","here"] .none M5 ++
 ff 617 1137 (mA 53 2) "get" "Env.get" 386 2 ["self","name","here"] .none M5 ++
 ff 624 1146 (mA 53 3) "set" "Env.set" 390 3 ["self","name","value"] .none M5 ++
 fb P Qn ["call","names","outer"] [] ++
 hd P Qo [] ++
 [tp [.none]] ++
 ff 646 1178 (mA 54 0) "__init__" "Task.__init__" 394 5 ["self","kind","node","env","number"] (R 645) M5 ++
 fb P Qo ["env","held","kept","kind","node","number","state"] [] ++
 hd P Qp [] ++
 ff 667 1216 (mA 55 0) "__init__" "Walker.__init__" 404 4 ["self","world","table","catches"] .none M5 ++
 ff 674 1226 (mA 55 1) "enter" "Walker.enter" 412 2 ["self","task"] .none M5 ++
 ff 681 1234 (mA 55 2) "go" "Walker.go" 415 3 ["self","node","env"] .none M5 ++
 [tp [.none,(S "call" 1243),.none]] ++
 ff 689 1244 (mA 55 3) "send" "Walker.send" 418 7 ["self","receiver","name","args","block","how","env"] (R 688) M5 ++
 ff 696 1257 (mA 55 4) "done" "Walker.done" 421 2 ["self","value"] .none M5 ++
 ff 703 1265 (mA 55 5) "leave" "Walker.leave" 424 2 ["self","way"] .none M5 ++
 ff 710 1273 (mA 55 6) "deliver" "Walker.deliver" 428 2 ["self","way"] .none M5 ++
 ff 717 1281 (mA 55 7) "going" "Walker.going" 431 2 ["self","number"] .none M5 ++
 ff 724 1289 (mA 55 8) "raise_error" "Walker.raise_error" 434 2 ["self","thing"] .none M5 ++
 ff 731 1297 (mA 55 9) "fail" "Walker.fail" 438 3 ["self","kind","message"] .none M5
def ch5(P:Params):List Obj:=
 ff 738 1306 (mA 55 10) "step" "Walker.step" 441 1 ["self"] .none M5 ++
 ff 745 1313 (mA 55 11) "run" "Walker.run" 444 1 ["self"] .none M5 ++
 fb P Qp ["catches","fiber","stack","table","way","world"] [] ++
 fd 759 1336 (dA 57) "refusal" 447 5 ["world","task","receiver","entry","how","owner"] .none (S "gemrows.walkcalls" 1334) ++
 [tp [(S "Kernel" 1350),(S "Comparable" 1351),(S "Enumerable" 1352)],dO 40 [en P "BasicObject" 1354 .none,en P "Object" 1356 (S "BasicObject" 1357),en P "Module" 1359 (S "Object" 1360),en P "Class" 1362 (S "Module" 1363),en P "Kernel" 1365 .none,en P "Comparable" 1367 .none,en P "Enumerable" 1369 .none,en P "NilClass" 1371 (S "Object" 1372),en P "TrueClass" 1374 (S "Object" 1375),en P "FalseClass" 1377 (S "Object" 1378),en P "Numeric" 1380 (S "Object" 1381),en P "Integer" 1383 (S "Numeric" 1384),en P "String" 1386 (S "Object" 1387),en P "Symbol" 1389 (S "Object" 1390),en P "Array" 1392 (S "Object" 1393),en P "Hash" 1395 (S "Object" 1396),en P "Range" 1398 (S "Object" 1399),en P "Proc" 1401 (S "Object" 1402),en P "Fiber" 1404 (S "Object" 1405),en P "Exception" 1407 (S "Object" 1408),en P "ScriptError" 1410 (S "Exception" 1411),en P "NotImplementedError" 1413 (S "ScriptError" 1414),en P "SystemStackError" 1416 (S "Exception" 1417),en P "StandardError" 1419 (S "Exception" 1420),en P "ArgumentError" 1422 (S "StandardError" 1423),en P "UncaughtThrowError" 1425 (S "ArgumentError" 1426),en P "FiberError" 1428 (S "StandardError" 1429),en P "IndexError" 1431 (S "StandardError" 1432),en P "KeyError" 1434 (S "IndexError" 1435),en P "StopIteration" 1437 (S "IndexError" 1438),en P "LocalJumpError" 1440 (S "StandardError" 1441),en P "NameError" 1443 (S "StandardError" 1444),en P "NoMethodError" 1446 (S "NameError" 1447),en P "NoMatchingPatternError" 1449 (S "StandardError" 1450),en P "NoMatchingPatternKeyError" 1452 (S "NoMatchingPatternError" 1453),en P "RangeError" 1454 (S "StandardError" 1455),en P "RuntimeError" 1456 (S "StandardError" 1457),en P "FrozenError" 1458 (S "RuntimeError" 1459),en P "TypeError" 1460 (S "StandardError" 1461),en P "ZeroDivisionError" 1462 (S "StandardError" 1463)],dO 17 [en P "Proc" 1401 (S "Object" 1402),en P "Fiber" 1404 (S "Object" 1405),en P "Exception" 1407 (S "Object" 1408),en P "ScriptError" 1410 (S "Exception" 1411),en P "NotImplementedError" 1413 (S "ScriptError" 1414),en P "SystemStackError" 1416 (S "Exception" 1417),en P "StandardError" 1419 (S "Exception" 1420),en P "ArgumentError" 1422 (S "StandardError" 1423),en P "UncaughtThrowError" 1425 (S "ArgumentError" 1426),en P "FiberError" 1428 (S "StandardError" 1429),en P "IndexError" 1431 (S "StandardError" 1432),en P "KeyError" 1434 (S "IndexError" 1435),en P "StopIteration" 1437 (S "IndexError" 1438),en P "LocalJumpError" 1440 (S "StandardError" 1441),en P "NameError" 1443 (S "StandardError" 1444),en P "NoMethodError" 1446 (S "NameError" 1447),en P "NoMatchingPatternError" 1449 (S "StandardError" 1450)],dO 6 [en P "NoMatchingPatternKeyError" 1452 (S "NoMatchingPatternError" 1453),en P "RangeError" 1454 (S "StandardError" 1455),en P "RuntimeError" 1456 (S "StandardError" 1457),en P "FrozenError" 1458 (S "RuntimeError" 1459),en P "TypeError" 1460 (S "StandardError" 1461),en P "ZeroDivisionError" 1462 (S "StandardError" 1463)],dO 7 [en P "Object" 1471 (R 771),en P "Numeric" 1473 (R 772),en P "String" 1475 (R 773),en P "Symbol" 1477 (R 774),en P "Array" 1479 (R 775),en P "Hash" 1481 (R 776),en P "Range" 1483 (R 777)],tp [(S "Kernel" 1472)],tp [(S "Comparable" 1474)],tp [(S "Comparable" 1476)],tp [(S "Comparable" 1478)],tp [(S "Enumerable" 1480)],tp [(S "Enumerable" 1482)],tp [(S "Enumerable" 1484)],tp [(S "NilClass" 1493),(S "TrueClass" 1494),(S "FalseClass" 1495),(S "Integer" 1496),(S "Symbol" 1497)]] ++
 hd P Qq [] ++
 [tp [.none,.none,(.int (20000) 1511)]] ++
 ff 787 1512 (mA 63 0) "__init__" "World.__init__" 463 5 ["self","natives","prelude","read","most","name"] (R 786) M6 ++
 ff 794 1524 (mA 63 1) "tick" "World.tick" 484 1 ["self"] .none M6 ++
 ff 801 1531 (mA 63 2) "write" "World.write" 487 2 ["self","text"] .none M6 ++
 ff 808 1539 (mA 63 3) "number" "World.number" 490 1 ["self"] .none M6 ++
 ff 815 1546 (mA 63 4) "next_ident" "World.next_ident" 494 1 ["self"] .none M6 ++
 ff 822 1553 (mA 63 5) "ident" "World.ident" 498 2 ["self","value","sort"] .none M6 ++
 ff 829 1562 (mA 63 6) "builtin" "World.builtin" 514 2 ["self","name","found"] .none M6 ++
 [tp [],pW [],qZ (fD (mA 63 7) "World.make_builtin" .none .none .none .none none .none .none 0 0),cO [(S "make_builtin" 1571),(S "World.make_builtin" 1572),(Z 1573),(I 518),(I 2),(I 0),(I 0),(I 3),(R 836),(.bool true),(I 181),(R 837),.none,.none,.none,(R 838),(I 1574),(I 518),(Z 1575)],qj (fD (mA 63 7) "World.make_builtin" .none .none .none M6 none (R 839) .none 3 0)] ++
 ff 841 1577 (mA 63 8) "give_own" "World.give_own" 531 2 ["self","name"] .none M6 ++
 [tp [.none,.none,.none]] ++
 ff 849 1585 (mA 63 9) "new_module" "World.new_module" 535 6 ["self","name","is_class","parent","outer","attached","owner","stands","found"] (R 848) M6 ++
 ff 856 1600 (mA 63 10) "class_of" "World.class_of" 544 2 ["self","value"] .none M6 ++
 ff 863 1608 (mA 63 11) "own_of" "World.own_of" 553 2 ["self","value"] .none M6 ++
 ff 870 1616 (mA 63 12) "own_behind" "World.own_behind" 560 2 ["self","module","behind"] .none M6 ++
 ff 877 1625 (mA 63 13) "root_of" "World.root_of" 568 2 ["self","module"] .none M6 ++
 ff 884 1633 (mA 63 14) "real_class" "World.real_class" 573 2 ["self","module"] .none M6 ++
 ff 891 1641 (mA 63 15) "text" "World.text" 578 2 ["self","text"] .none M6
def ch6(P:Params):List Obj:=
 ff 898 1649 (mA 63 16) "list_of" "World.list_of" 581 2 ["self","items"] .none M6 ++
 ff 905 1657 (mA 63 17) "table_of" "World.table_of" 584 2 ["self","pairs"] .none M6 ++
 ff 912 1665 (mA 63 18) "key_of" "World.key_of" 587 2 ["self","key"] .none M6 ++
 ff 919 1673 (mA 63 19) "range_of" "World.range_of" 590 4 ["self","first","last","is_open"] .none M6 ++
 ff 926 1683 (mA 63 20) "proc" "World.proc" 593 10 ["self","params","body","env","self_value","nesting","home","site","is_lambda","definer","owner"] .none M6 ++
 ff 933 1700 (mA 63 21) "thing" "World.thing" 597 2 ["self","module","root","number"] .none M6 ++
 ff 940 1710 (mA 63 22) "is_error_class" "World.is_error_class" 623 2 ["self","module"] .none M6 ++
 ff 947 1718 (mA 63 23) "spread" "World.spread" 630 2 ["self","value"] .none M6 ++
 ff 954 1726 (mA 63 24) "numbers_of" "World.numbers_of" 633 2 ["self","value"] .none M6 ++
 ff 961 1734 (mA 63 25) "need_size" "World.need_size" 636 2 ["self","count"] .none M6 ++
 ff 968 1742 (mA 63 26) "sized_text" "World.sized_text" 639 2 ["self","text"] .none M6 ++
 ff 975 1750 (mA 63 27) "error" "World.error" 642 3 ["self","name","message"] .none M6 ++
 ff 982 1759 (mA 63 28) "fail" "World.fail" 645 3 ["self","name","message"] .none M6 ++
 ff 989 1768 (mA 63 29) "need_thawed" "World.need_thawed" 648 2 ["self","value"] .none M6 ++
 ff 996 1776 (mA 63 30) "set_field" "World.set_field" 651 4 ["self","value","name","item"] .none M6 ++
 ff 1003 1786 (mA 63 31) "describe" "World.describe" 654 2 ["self","value"] .none M6 ++
 ff 1010 1794 (mA 63 32) "own_constant" "World.own_constant" 657 3 ["self","module","name"] .none M6 ++
 ff 1017 1803 (mA 63 33) "find_constant" "World.find_constant" 660 3 ["self","nesting","name"] .none M6 ++
 ff 1024 1812 (mA 63 34) "constant" "World.constant" 663 3 ["self","nesting","name"] .none M6 ++
 ff 1031 1821 (mA 63 35) "find_in" "World.find_in" 666 3 ["self","module","name"] .none M6 ++
 ff 1038 1830 (mA 63 36) "constant_in" "World.constant_in" 669 3 ["self","module","name"] .none M6 ++
 ff 1045 1839 (mA 63 37) "set_constant" "World.set_constant" 672 4 ["self","module","name","value"] .none M6 ++
 fb P Qq ["const_version","globals","here","is_ready","last_ident","last_number","made","main","most","natives","out","prelude","read","symbol_idents","taken","version"] [] ++
 fd 1059 1875 (dA 65) "_law_above" 675 0 [] .none M7
def ch7(P:Params):List Obj:=
 fd 1066 1881 (dA 66) "_law_within" 677 0 [] .none M7 ++
 fd 1073 1887 (dA 67) "_law_counted" 679 0 [] .none M7 ++
 fd 1080 1893 (dA 68) "_law_who" 681 0 [] .none M7 ++
 fd 1087 1899 (dA 69) "_law_heads" 683 0 [] .none M7 ++
 fd 1094 1905 (dA 70) "_law_senders" 685 0 [] .none M7 ++
 fd 1101 1911 (dA 71) "_law_well" 687 1 ["script","great","blend","cell"] .none M7 ++
 fd 1108 1921 (dA 72) "_law_draw" 694 2 ["well","many","digit","blend"] .none M7 ++
 fd 1115 1931 (dA 73) "_law_single" 702 2 ["well","books","above","spots","alone"] .none M7 ++
 [tp [],pW [],qZ (fD (dA 74) "_law_mixed" .none .none .none .none none .none .none 0 0),cO [(S "_law_mixed" 1942),(S "_law_mixed" 1943),(Z 1944),(I 718),(I 2),(I 0),(I 0),(I 3),(R 1122),(.bool true),(I 181),(R 1123),.none,.none,.none,(R 1124),(I 1945),(I 718),(Z 1946)],qj (fD (dA 74) "_law_mixed" .none .none .none M7 none (R 1125) .none 3 0)] ++
 fd 1127 1948 (dA 75) "_law_entries" 726 3 ["well","books","most","spots","turn","spot","way","sight","owner","sort","at"] .none M7 ++
 fd 1134 1965 (dA 76) "_law_books" 739 2 ["well","most","name","native","books","is_shy"] .none M7 ++
 [tp [],pW [],qZ (fD (dA 77) "_law_made" .none .none .none .none none .none .none 0 0),cO [(S "_law_made" 1977),(S "_law_made" 1978),(Z 1979),(I 750),(I 2),(I 0),(I 0),(I 3),(R 1141),(.bool true),(I 181),(R 1142),.none,.none,.none,(R 1143),(I 1980),(I 750),(Z 1981)],qj (fD (dA 77) "_law_made" .none .none .none M7 none (R 1144) .none 3 0)] ++
 fd 1146 1983 (dA 78) "_law_circle" 774 2 ["books","one","found","guest"] .none M7 ++
 [tp [],pW [],qZ (fD (dA 79) "_law_line" .none .none .none .none none .none .none 0 0),cO [(S "_law_line" 1993),(S "_law_line" 1994),(Z 1995),(I 782),(I 2),(I 0),(I 0),(I 3),(R 1153),(.bool true),(I 181),(R 1154),.none,.none,.none,(R 1155),(I 1996),(I 782),(Z 1997)],qj (fD (dA 79) "_law_line" .none .none .none M7 none (R 1156) .none 3 0),tp [],pW [],qZ (fD (dA 80) "_law_found" .none .none .none .none none .none .none 0 0),cO [(S "_law_found" 1999),(S "_law_found" 2000),(Z 2001),(I 792),(I 2),(I 0),(I 0),(I 3),(R 1158),(.bool true),(I 181),(R 1159),.none,.none,.none,(R 1160),(I 2002),(I 792),(Z 2003)],qj (fD (dA 80) "_law_found" .none .none .none M7 none (R 1161) .none 3 0),tp [],pW [],qZ (fD (dA 81) "_law_agreed" .none .none .none .none none .none .none 0 0),cO [(S "_law_agreed" 2005),(S "_law_agreed" 2006),(Z 2007),(I 799),(I 5),(I 0),(I 0),(I 3),(R 1163),(.bool true),(I 181),(R 1164),.none,.none,.none,(R 1165),(I 2008),(I 799),(Z 2009)],qj (fD (dA 81) "_law_agreed" .none .none .none M7 none (R 1166) .none 3 0),tp [],pW [],qZ (fD (dA 82) "law" .none .none .none .none none .none .none 0 0),cO [(S "law" 2011),(S "law" 2012),(Z 2013),(I 821),(I 1),(I 0),(I 0),(I 3),(R 1168),(.bool true),(I 181),(R 1169),.none,.none,.none,(R 1170),(I 2014),(I 821),(Z 2015)],qj (fD (dA 82) "law" .none .none .none M7 none (R 1171) .none 3 0)]
def objs(P:Params):List Obj:=ch0 P++ch1 P++ch2 P++ch3 P++ch4 P++ch5 P++ch6 P++ch7 P
def pre(P:Params):List Obj:=((((objs P).take 15).set 3 (gO P 8 (S "__main__" 164))).set 12 (pW []))
def Il(P:Params):List Obj:=((((objs P).take 15).set 3 (gO P 8 (S "__main__" 164))).set 12 (pW []))
def Im(P:Params):List Obj:=(((((objs P).take 43).set 3 (gO P 12 M0)).set 12 (tr 0 (tn.take 4))).set 38 (ty "Thing" [tO] [(R 38),tO] 37 [] none 200 208))
def Io(P:Params):List Obj:=(((((objs P).take 141).set 3 (gO P 16 M0)).set 12 (tr 0 (tn.take 12))).set 38 (ty "Thing" [tO] [(R 38),tO] 37 [(R 60),(R 80),(R 118),(R 138)] none 200 208))
def Ip(P:Params):List Obj:=((((objs P).take 229).set 3 (gO P 20 M0)).set 12 (tr 0 (tn.take 20)))
def Iq(P:Params):List Obj:=((((objs P).take 336).set 3 (gO P 34 M1)).set 12 (tr 0 (tn.take 44)))
def Ir(P:Params):List Obj:=((((objs P).take 456).set 3 (gO P 48 M2)).set 12 (tr 0 (tn.take 72)))
def Iu(P:Params):List Obj:=((((objs P).take 527).set 3 (gO P 51 M4)).set 12 (tr 0 (tn.take 78)))
def Iv(P:Params):List Obj:=((((objs P).take 660).set 3 (gO P 57 M5)).set 12 (tr 0 (tn.take 90)))
def Iw(P:Params):List Obj:=((((objs P).take 759).set 3 (gO P 58 M5)).set 12 (tr 0 (tn.take 92)))
def zz(P:Params):List Obj:=((((objs P).take 767).set 3 (gO P 60 M6)).set 12 (tr 0 (tn.take 94)))
def vq(P:Params):List Obj:=((((objs P).take 770).set 3 (gO P 61 M6)).set 12 (tr 0 (tn.take 94)))
def zA(P:Params):List Obj:=((((objs P).take 778).set 3 (gO P 62 M6)).set 12 (tr 0 (tn.take 94)))
def Iz(P:Params):List Obj:=((((objs P).take 779).set 3 (gO P 63 M6)).set 12 (tr 0 (tn.take 94)))
def IA(P:Params):List Obj:=((((objs P).take 1059).set 3 (gO P 64 M6)).set 12 (tr 0 (tn.take 96)))
def IB(P:Params):List Obj:=((objs P).take 1173)
noncomputable def sp:List Obj->List Obj×List Obj
|[]=>([],[])
|a::r=>(a::(sp r).2,(sp r).1)
def bt:Nat->List Obj->BT
|0,_=>.nil
|_+1,[]=>.nil
|f+1,o::r=>.node o (bt f (sp r).1) (bt f (sp r).2)
noncomputable abbrev ann:Option Value:=some (.ref 6)
def env:PySem.Env:={ scope:=pw.main.scope,locals:=mainNs,globals:=mainNs,cells:=[],code:=.ref 13,frame:=some 14 }
def top:List Stmt:=behindTheImports pw
def cd:Code:=.body top env
noncomputable def bot:List Frame:=[topFrame ⟨0,0,0,0⟩]
def grp(a n:Nat):List Stmt:=(top.drop a).take n
theorem aeP(a n:Nat):grp a n++top.drop (a+n)=top.drop a:=by unfold grp;rw [<-List.drop_drop];exact List.take_append_drop _ _
def oX(l:List Obj)(n t:Nat)(os:OsState):SharedT:=⟨bt 20 l,n,{},#[],{},t,os⟩
theorem pX:@segRunT treeTable=@PySem.W.Fast.tw10110043849684766642 PySem.W.Fast.tw14364793385576792824:=by
 rw [<-PySem.W.Fast.te10110043849684766642,<-PySem.W.Fast.te14364793385576792824]
abbrev SG(c:Nat)(F G:Params->List Obj)(n t a k:Nat)(p:Pos)(m u:Nat)(q:Pos)(w:World):Prop:=∀os:OsState,segRunT treeTable pw w 11 ann 1 c (oX (F w.params) n t os) (piecesOf (grp a k) env cd p bot)=some (.next,oX (G w.params) m u os,cd,q)
theorem g0(w:World):SG 285 Il Im 15 187 0 5 ⟨0,0,0,0⟩ 43 235 ⟨7,0,15,25⟩ w:=λos=>by rw [pX];kernel_rfl
theorem g5(w:World):SG 1092 Im Io 43 235 5 4 ⟨7,0,15,25⟩ 141 373 ⟨46,0,52,27⟩ w:=λos=>by rw [pX];kernel_rfl
theorem g9(w:World):SG 1059 Io Ip 141 373 9 4 ⟨46,0,52,27⟩ 229 521 ⟨80,0,97,40⟩ w:=λos=>by rw [pX];kernel_rfl
theorem g13(w:World):SG 826 Ip Iq 229 521 13 15 ⟨80,0,97,40⟩ 336 690 ⟨207,0,208,8⟩ w:=λos=>by rw [pX];kernel_rfl
theorem g28(w:World):SG 700 Iq Ir 336 690 28 15 ⟨207,0,208,8⟩ 456 878 ⟨281,0,297,16⟩ w:=λos=>by rw [pX];kernel_rfl
theorem g43(w:World):SG 626 Ir Iu 456 878 43 5 ⟨281,0,297,16⟩ 527 1008 ⟨345,0,345,8⟩ w:=λos=>by rw [pX];kernel_rfl
theorem g48(w:World):SG 1291 Iu Iv 527 1008 48 7 ⟨345,0,345,8⟩ 660 1204 ⟨392,0,401,24⟩ w:=λos=>by rw [pX];kernel_rfl
theorem g55(w:World):SG 589 Iv Iw 660 1204 55 1 ⟨392,0,401,24⟩ 759 1334 ⟨402,0,445,17⟩ w:=λos=>by rw [pX];kernel_rfl
theorem g56(w:World):SG 66 Iw zz 759 1334 56 4 ⟨402,0,445,17⟩ 767 1354 ⟨457,0,457,7⟩ w:=λos=>by rw [pX];kernel_rfl
theorem aeQ(w:World):SG 759 zz vq 767 1354 60 1 ⟨457,0,457,7⟩ 770 1471 ⟨458,0,458,8⟩ (w.withFollow "special-get-raises" false):=λos=>by rw [pX];kernel_rfl
theorem aeR(w:World):SG 759 zz vq 767 1354 60 1 ⟨457,0,457,7⟩ 770 1471 ⟨458,0,458,8⟩ (w.withFollow "special-get-raises" true):=λos=>by rw [pX];kernel_rfl
theorem g60(w:World):SG 759 zz vq 767 1354 60 1 ⟨457,0,457,7⟩ 770 1471 ⟨458,0,458,8⟩ w:=byRow2 "special-get-raises" (P:=SG 759 zz vq 767 1354 60 1 ⟨457,0,457,7⟩ 770 1471 ⟨458,0,458,8⟩) aeQ aeR w
theorem aeS(w:World):SG 130 vq zA 770 1471 61 1 ⟨458,0,458,8⟩ 778 1493 ⟨459,0,459,5⟩ (w.withFollow "special-get-raises" false):=λos=>by rw [pX];kernel_rfl
theorem aeT(w:World):SG 130 vq zA 770 1471 61 1 ⟨458,0,458,8⟩ 778 1493 ⟨459,0,459,5⟩ (w.withFollow "special-get-raises" true):=λos=>by rw [pX];kernel_rfl
theorem g61(w:World):SG 130 vq zA 770 1471 61 1 ⟨458,0,458,8⟩ 778 1493 ⟨459,0,459,5⟩ w:=byRow2 "special-get-raises" (P:=SG 130 vq zA 770 1471 61 1 ⟨458,0,458,8⟩ 778 1493 ⟨459,0,459,5⟩) aeS aeT w
theorem g62(w:World):SG 16 zA Iz 778 1493 62 1 ⟨459,0,459,5⟩ 779 1499 ⟨460,0,460,6⟩ w:=λos=>by rw [pX];kernel_rfl
theorem g63(w:World):SG 1456 Iz IA 779 1499 63 1 ⟨460,0,460,6⟩ 1059 1873 ⟨461,0,673,17⟩ w:=λos=>by rw [pX];kernel_rfl
theorem g64(w:World):SG 536 IA IB 1059 1873 64 19 ⟨461,0,673,17⟩ 1173 2017 ⟨821,0,838,15⟩ w:=λos=>by rw [pX];kernel_rfl
end
section
variable{η:AH}{r n j fuel:Nat}{o':AO}{us:List Value}{fs:List (Str×PV)}{h':Heap}{prog:Program}{dx:Addr}{name nm:Str}{value slice elt kx vx tg:Expr}{A:Around}{ks:List (Option Expr)}{ts:List Expr}{names:List (Str×NameKind)}{nD:Tg}
set_option backward.match.sparseCases true
section
theorem xb{P:Prop}{a b:Bool}(h:(a && b)=true)(k:a=true->b=true->P):P:=by
 cases a
 ·exact xf h
 ·exact k rfl h
theorem xc{α:Type _}{c:Bool}{x:Option α}{y:α}{P:Prop}(h:cond c x none=some y)(k:c=true->x=some y->P):P:=by
 cases c
 ·exact xn h
 ·exact k rfl h
theorem xd{P:Prop}(c:Bool)(t:c=true->P)(f:c=false->P):P:=by
 cases c
 ·exact f rfl
 ·exact t rfl
theorem xo{α:Type _}{P:Prop}(o:Option α)(n:o=none->P)(s:∀a,o=some a->P):P:=by
 cases o with
|none=>exact n rfl
|some a=>exact s a rfl
inductive PV where
|none
|bool (b:Bool)
|int (i:Int)
|str (s:Str)
|tup (l:List PV)
|ref (r i:Nat)
|st (v:Value)
|fl (l:List PV)
|mr (a b:Int)
inductive AO where
|list (l:List PV)
|sd (l:List (Str×PV)) (v:Nat)
|rY (l:List (Int×PV))
|jm
|inst (c:Addr) (fs:List (Str×PV))
structure AH where
 old:List (List AO)
 cur:List AO
namespace AH
noncomputable def get(η:AH)(r i:Nat):Option AO:=if r=η.old.length then η.cur[i]? else (η.old[r]?).bind (·[i]?)
noncomputable def set(η:AH)(r i:Nat)(o:AO):AH:=if r=η.old.length then ⟨η.old,η.cur.set i o⟩ else ⟨η.old.modify r (·.set i o),η.cur⟩
noncomputable def add(η:AH)(o:AO):AH:=⟨η.old,η.cur++[o]⟩
noncomputable def reg(η:AH):Nat:=η.old.length
noncomputable def iZ(η:AH):Nat:=η.cur.length
noncomputable def fresh(η:AH):AH:=⟨η.old++[η.cur],[]⟩
noncomputable def row(η:AH)(r:Nat):List AO:=if r=η.old.length then η.cur else (η.old[r]?).getD []
theorem wI(η:AH)(r i:Nat):η.get r i=(η.row r)[i]?:=by
 unfold get row
 split
 ·rfl
 ·cases η.old[r]?<;>rfl
theorem aeU(i:Nat)(o:AO)(h:η.row r≠[])(r':Nat):(η.set r i o).row r'=if r'=r then (η.row r).set i o else η.row r':=by
 unfold row set at *
 by_cases e:r=η.old.length
 ·rw [if_pos e]
  by_cases q:r'=r
  ·rw [if_pos q,if_pos (q.trans e),if_pos e]
  ·rw [if_neg q]
   have q':r'≠η.old.length:=e▸q
   exact (if_neg q').trans (if_neg q').symm
 ·rw [if_neg e] at h ⊢
  dsimp only
  rw [gU,gW]
  by_cases q:r'=r
  ·rw [if_pos q,q,if_neg e,if_neg e]
   cases g:η.old[r]? with
  |none=>rw [g] at h;exact absurd rfl h
  |some l=>exact congrArg (λo=>Option.getD o []) (congrArg some (if_pos rfl))
  ·rw [if_neg q]
   cases η.old[r']? with
  |none=>rfl
  |some l=>exact ite_congr rfl (λJ=>rfl) λJ=>congrArg (λo=>Option.getD o []) (congrArg some (if_neg (cX q)))
theorem get_set{i:Nat}{o:AO}(h:η.get r i=some o)(r' i':Nat):(η.set r i o').get r' i'=if r'=r/\i'=i then some o' else η.get r' i':=by
 rw [wI] at h
 rw [wI,wI,aeU i o' (λe=>by rw [e] at h;exact xn h)]
 by_cases e:r'=r
 ·rw [if_pos e,List.getElem?_set,e]
  by_cases q:i=i'
  ·rw [if_pos q,if_pos (cY.mp h).1,if_pos ⟨rfl,q.symm⟩]
  ·rw [if_neg q,if_neg λz=>q z.2.symm]
 ·rw [if_neg e,if_neg λz=>e z.1]
theorem aeV(η:AH)(o:AO)(r:Nat):(η.add o).row r=if r=η.reg then η.cur++[o] else η.row r:=by
 unfold row add reg
 split<;>rfl
theorem wJ(η:AH)(o:AO)(r i:Nat):(η.add o).get r i=if r=η.reg/\i=η.iZ then some o else η.get r i:=by
 rw [wI,wI,aeV]
 by_cases e:r=η.reg
 ·rw [if_pos e,e,show η.row η.reg=η.cur from if_pos rfl]
  rcases Nat.lt_trichotomy i η.iZ with h|h|h
  ·rw [fR h,if_neg λz=>bI h z.2]
  ·rw [if_pos ⟨rfl,h⟩,h];exact gX
  ·rw [if_neg λz=>eG h z.2,cy (aD h),cy (by rw [aE];exact h)]
 ·rw [if_neg e,if_neg λz=>e z.1]
theorem Eb(η:AH):η.get η.reg η.iZ=none:=by
 rw [wI]
 show (if η.reg=η.reg then η.cur else _)[η.iZ]?=none
 rw [if_pos rfl]
 exact cy (ak _)
theorem Bu(η:AH)(r i:Nat):η.fresh.get r i=η.get r i:=by
 rw [wI,wI]
 congr 1
 unfold row fresh
 dsimp only
 rw [aE]
 rcases Nat.lt_trichotomy r η.old.length with h|h|h
 ·rw [fR h,if_neg (bI h)];exact if_neg (bI (fS h))
 ·rw [if_pos h,h,gX];exact if_neg (bI (bG _))
 ·rw [if_neg (eG h),cy (aD h),cy (by rw [aE];exact h)]
  split<;>rfl
end AH
structure Em where
 fz:Addr->Option Obj
 ad:Nat->Nat->Bool->Option Addr
 ep:Nat->Nat->Nat->Option Nat
structure Em.Le(X Y:Em):Prop where
 fz:∀{a o},X.fz a=some o->Y.fz a=some o
 ad:∀{r i b a},X.ad r i b=some a->Y.ad r i b=some a
 ep:∀{r i v e},X.ep r i v=some e->Y.ep r i v=some e
theorem Em.Le.refl(X:Em):X.Le X:=⟨id,id,id⟩
theorem Em.Le.trans{X Y Z:Em}(h:X.Le Y)(k:Y.Le Z):X.Le Z:=⟨k.1∘h.1,k.2∘h.2,k.3∘h.3⟩
noncomputable def Ec:Value->Bool
|.ref a=>decide (a<1173)
|.type _=>true
|.builtin _=>true
|_=>false
def IC(o:Obj)(i j:Int):Prop:=∃t u v:Nat,o={ cls:=.type "range",dict:=none,data:=.fields #[.int i t,.int j u,.int 1 v],slots:=#[] }
noncomputable abbrev tC(vs:List Value)(n:Nat):Obj:=⟨.type "tuple",none,.seq vs.toArray n,#[]⟩
noncomputable abbrev q8(vs:List Value)(n:Nat):Obj:=⟨.type "list",none,.seq vs.toArray n,#[]⟩
noncomputable abbrev zB:Obj:=⟨.type "dict",none,.dict #[] 0,#[]⟩
noncomputable abbrev IE(c dx:Addr):Obj:=⟨.ref c,some dx,.plain,#[]⟩
mutual
def VR(X:Em)(v:Value):PV->Prop
|.none=>v=.none
|.bool b=>v=.bool b
|.int i=>∃t,v=.int i t
|.str x=>∃t,v=.str x t
|.tup l=>∃a vs n,v=.ref a/\X.fz a=some (tC vs n)/\jr X vs l
|.ref r i=>∃a,v=.ref a/\X.ad r i false=some a
|.st u=>v=u/\Ec u=true
|.fl l=>∃a o vs n,v=.ref a/\X.fz a=some o/\o.cls=.type "list"/\o.data=.seq vs.toArray n/\jr X vs l
|.mr i j=>∃a o,v=.ref a/\X.fz a=some o/\IC o i j
def jr(X:Em)(vs:List Value):List PV->Prop
|[]=>vs=[]
|p::ps=>∃v us,vs=v::us/\VR X v p/\jr X us ps
end
section
variable{X Y:Em}{v:Value}{vs:List Value}{p q:PV}{ps qs:List PV}
theorem VR.none:VR X .none .none:=rfl
theorem VR.bool(b:Bool):VR X (.bool b) (.bool b):=rfl
theorem VR.int(i:Int)(t:Tok):VR X (.int i t) (.int i):=⟨t,rfl⟩
theorem VR.str(s:Str)(t:Tok):VR X (.str s t) (.str s):=⟨t,rfl⟩
theorem VR.ref{i:Nat}{a:Addr}(h:X.ad r i false=some a):VR X (.ref a) (.ref r i):=⟨a,rfl,h⟩
theorem VR.st(h:Ec v=true):VR X v (.st v):=⟨rfl,h⟩
theorem VR.tup{a:Addr}(h:X.fz a=some (tC vs n))(r:jr X vs ps):VR X (.ref a) (.tup ps):=⟨a,vs,n,rfl,h,r⟩
theorem VR.fl{a:Addr}{o:Obj}(h:X.fz a=some o)(c:o.cls=.type "list")(d:o.data=.seq vs.toArray n)(r:jr X vs ps):VR X (.ref a) (.fl ps):=⟨a,o,vs,n,rfl,h,c,d,r⟩
theorem VR.mr{a:Addr}{o:Obj}{i j:Int}(h:X.fz a=some o)(r:IC o i j):VR X (.ref a) (.mr i j):=⟨a,o,rfl,h,r⟩
theorem jr.nil:jr X [] []:=rfl
theorem jr.cons(r:VR X v p)(rs:jr X vs ps):jr X (v::vs) (p::ps):=⟨v,vs,rfl,r,rs⟩
variable{P:Value->Prop}{R:List Value->Prop}
@[elab_as_elim] theorem vN(r:VR X v .none)(k:P .none):P v:=(show v=.none from r)▸k
@[elab_as_elim] theorem vB{b:Bool}(r:VR X v (.bool b))(k:P (.bool b)):P v:=(show v=.bool b from r)▸k
@[elab_as_elim] theorem vI{i:Int}(r:VR X v (.int i))(k:∀t,P (.int i t)):P v:=ay r λt e=>e▸k t
@[elab_as_elim] theorem vS{s:Str}(r:VR X v (.str s))(k:∀t,P (.str s t)):P v:=ay r λt e=>e▸k t
@[elab_as_elim] theorem vR{i:Nat}(h:VR X v (.ref r i))(k:∀a,X.ad r i false=some a->P (.ref a)):P v:=ay h λa h=>h.1▸k a h.2
@[elab_as_elim] theorem vT{u:Value}(h:VR X v (.st u))(k:Ec u=true->P u):P v:=h.1▸k h.2
@[elab_as_elim] theorem vU(h:VR X v (.tup ps))(k:∀a vs n,X.fz a=some (tC vs n)->jr X vs ps->P (.ref a)):P v:=ay h λa h=>h.elim λvs h=>h.elim λn h=>h.1▸k a vs n h.2.1 h.2.2
@[elab_as_elim] theorem vF(h:VR X v (.fl ps))(k:∀a o vs n,X.fz a=some o->o.cls=.type "list"->o.data=.seq vs.toArray n->jr X vs ps->P (.ref a)):P v:=ay h λa h=>h.elim λo h=>h.elim λvs h=>h.elim λn h=>h.1▸k a o vs n h.2.1 h.2.2.1 h.2.2.2.1 h.2.2.2.2
@[elab_as_elim] theorem vG{i j:Int}(h:VR X v (.mr i j))(k:∀a o,X.fz a=some o->IC o i j->P (.ref a)):P v:=ay h λa h=>h.elim λo h=>h.1▸k a o h.2.1 h.2.2
@[elab_as_elim] theorem oM(h:jr X vs [])(k:R []):R vs:=(show vs=[] from h)▸k
@[elab_as_elim] theorem mK(h:jr X vs (p::ps))(k:∀v us,VR X v p->jr X us ps->R (v::us)):R vs:=ay h λv h=>h.elim λus h=>h.1▸k v us h.2.1 h.2.2
end
section
variable{X Y:Em}
mutual
theorem VR.mono(h:X.Le Y):∀{p:PV} {v:Value},VR X v p->VR Y v p
|.none,_,r=>r
|.bool _,_,r=>r
|.int _,_,r=>r
|.str _,_,r=>r
|.ref _ _,_,r=>vR r λJ e=>.ref (h.ad e)
|.st _,_,r=>r
|.tup _,_,r=>vU r λJ J J e q=>.tup (h.fz e) (q.mono h)
|.fl _,_,r=>vF r λJ J J J e c d q=>.fl (h.fz e) c d (q.mono h)
|.mr _ _,_,r=>vG r λJ J e q=>.mr (h.fz e) q
theorem jr.mono(h:X.Le Y):∀{p:List PV} {v:List Value},jr X v p->jr Y v p
|[],_,r=>r
|_::_,_,r=>mK r λJ J a b=>.cons (a.mono h) (b.mono h)
end
theorem jr.length{ps:List PV}:∀{vs:List Value},jr X vs ps->vs.length=ps.length:=by
 induction ps with
|nil=>intro vs h;refine oM h ?_;rfl
|cons _ _ ih=>intro vs h;refine mK h λJ J J r=>?_;exact congrArg (·+1) (ih r)
theorem jr.get{ps:List PV}:∀{vs:List Value},jr X vs ps->∀{k:Nat} {x:PV},ps[k]?=some x->∃u,vs[k]?=some u/\VR X u x:=by
 induction ps with
|nil=>exact λJ J J h=>xn h
|cons p ps ih=>
  intro vs h k x e
  refine mK h λv us r rs=>?_
  cases k with
 |zero=>exact ⟨v,rfl,ai e▸r⟩
 |succ k=>exact ih (k:=k) rs e
theorem jr.append{ps qs:List PV}:∀{vs:List Value},jr X vs ps->jr X us qs->jr X (vs++us) (ps++qs):=by
 induction ps with
|nil=>exact λh k=>oM h k
|cons p ps ih=>exact λh k=>mK h λJ J r rs=>.cons r (ih rs k)
def KR(X:Em){K:Type}(kvs:List (K×Value)):List (K×PV)->Prop
|[]=>kvs=[]
|(k,p)::ps=>∃v us,kvs=(k,v)::us/\VR X v p/\KR X us ps
variable{K:Type}{kvs:List (K×Value)}{l:List (K×PV)}
theorem KR.nil:KR X (K:=K) [] []:=rfl
theorem KR.cons{k:K}{v:Value}{p:PV}(r:VR X v p)(rs:KR X kvs l):KR X ((k,v)::kvs) ((k,p)::l):=⟨v,kvs,rfl,r,rs⟩
@[elab_as_elim] theorem Bv{R:List (K×Value)->Prop}(h:KR X kvs [])(k:R []):R kvs:=(show kvs=[] from h)▸k
@[elab_as_elim] theorem vt{R:List (K×Value)->Prop}{k:K}{p:PV}(h:KR X kvs ((k,p)::l))(q:∀v us,VR X v p->KR X us l->R ((k,v)::us)):R kvs:=ay h λv h=>h.elim λus h=>h.1▸q v us h.2.1 h.2.2
theorem KR.mono(h:X.Le Y):∀{kvs:List (K×Value)},KR X kvs l->KR Y kvs l:=by
 induction l with
|nil=>exact λr=>r
|cons a l ih=>intro kvs r;refine vt r λJ J a b=>?_;exact .cons (a.mono h) (ih b)
def q9(h:Heap)(a:Addr)(m:Str->Option Value)(k:Nat):Prop:=∃o es ep,h.get? a=some o/\o.data=.dict es ep/\StrKeys es/\(∀name,nsFind es name=m name)/\es.size<=k
def NR(X:Em)(m:Str->Option Value)(fs:List (Str×PV)):Prop:=∀x,(fs.lookup x=none/\m x=none)\/∃p v,fs.lookup x=some p/\m x=some v/\VR X v p
theorem NR.mono(h:X.Le Y){m:Str->Option Value}(n:NR X m fs):NR Y m fs:=λx=>(n x).imp id λz=>z.elim λp z=>z.elim λv z=>⟨p,v,z.1,z.2.1,z.2.2.mono h⟩
def OR(w:World)(X:Em)(h:Heap)(a:Addr)(d:Option Addr)(ep:Nat->Option Nat):AO->Prop
|.list l=>∃vs n,h.get? a=some (q8 vs n)/\jr X vs l
|.sd l v=>∃kvs e,ep v=some e/\h.DictAt (strKind pw w) a kvs e/\KR X kvs l
|.rY l=>∃kvs,h.DictOf (intKind pw w) a kvs/\KR X kvs l
|.jm=>h.get? a=some zB
|.inst c fs=>∃dx m,d=some dx/\h.get? a=some (IE c dx)/\q9 h dx m fs.length/\NR X m fs
end
end
section
def Em.kH(X:Em)(a:Addr):Prop:=(∃o,X.fz a=some o)\/∃r i b,X.ad r i b=some a
theorem yg{X:Em}{a:Addr}{o:Obj}(h:X.fz a=some o):X.kH a:=.inl ⟨o,h⟩
theorem rg{X:Em}{a:Addr}{i:Nat}{b:Bool}(h:X.ad r i b=some a):X.kH a:=.inr ⟨r,i,b,h⟩
theorem Em.Le.trk{X Y:Em}(le:X.Le Y){a:Addr}(t:X.kH a):Y.kH a:=t.elim (λh=>h.elim λJ h=>yg (le.fz h)) λh=>h.elim λJ h=>h.elim λJ h=>h.elim λJ h=>rg (le.ad h)
theorem aeW{X:Em}{a:Addr}(h:¬ X.kH a):X.fz a=none:=xo (X.fz a) id λJ q=>absurd (yg q) h
structure Ext(X:Em)(s:Shared)(F:Addr->Prop)(Y:Em)(s':Shared):Prop where
 le:X.Le Y
 off:∀{a o},s.heap.get? a=some o->¬ X.kH a->¬ Y.kH a
 live:∀a o,s.heap.get? a=some o->¬ X.kH a->F a->∃o',s'.heap.get? a=some o'
 keep:∀a o,s.heap.get? a=some o->¬ X.kH a->¬ F a->s'.heap.get? a=some o
 gens:s'.gens=s.gens
 os:s'.os=s.os
abbrev no:Addr->Prop:=λJ=>False
section
variable{X Y Z:Em}{s s' Ed:Shared}{F G:Addr->Prop}{a:Addr}{o:Obj}
theorem Ext.grow(h:∀a o,s.heap.get? a=some o->s'.heap.get? a=some o)(g:s'.gens=s.gens)(q:s'.os=s.os):Ext X s F X s':=⟨.refl X,λJ n=>n,λa o e J J=>⟨o,h a o e⟩,λa o e J J=>h a o e,g,q⟩
theorem Ext.refl(X:Em)(s:Shared)(F:Addr->Prop):Ext X s F X s:=.grow (λJ J h=>h) rfl rfl
theorem Ext.alive(e:Ext X s F Y s')(h:s.heap.get? a=some o)(n:¬ X.kH a):∃o',s'.heap.get? a=some o':=by
 by_cases q:F a
 ·exact e.live a o h n q
 ·exact ⟨o,e.keep a o h n q⟩
theorem Ext.into(e:Ext X s F Y s')(f:Ext Y s' G Z Ed)(hg:∀a o,s.heap.get? a=some o->¬ X.kH a->G a->F a):Ext X s F Z Ed where
 le:=e.le.trans f.le
 off h n:=(e.alive h n).elim λJ h'=>f.off h' (e.off h n)
 live a o h n q:=(e.live a o h n q).elim λJ h'=>f.alive h' (e.off h n)
 keep a o h n m:=f.keep a o (e.keep a o h n m) (e.off h n) λq=>m (hg a o h n q)
 gens:=f.gens.trans e.gens
 os:=f.os.trans e.os
theorem Ext.trans(e:Ext X s F Y s')(f:Ext Y s' F Z Ed):Ext X s F Z Ed:=e.into f λJ J J J q=>q
theorem Ext.up(e:Ext X s no Y s'):Ext X s F Y s':=⟨e.le,e.off,λa o h n J=>e.alive h n,λa o h n J=>e.keep a o h n id,e.gens,e.os⟩
theorem Ext.tok(X:Em)(s:Shared)(F:Addr->Prop)(t:Nat):Ext X s F X { s with toks:=t }:=.grow (λJ J h=>h) rfl rfl
theorem Ext.push(X:Em)(s:Shared)(F:Addr->Prop)(o:Obj)(t:Nat):Ext X s F X { s with heap:=s.heap.push o,toks:=t }:=.grow (λJ J h=>bS o h) rfl rfl
theorem Ext.but{t:Nat}(e:Ext X s F Y s')(hc:s.heap.get? a=none)(hs:dH a s'.heap h'):Ext X s F Y { s' with heap:=h',toks:=t }:=
 have k:∀{b o o'},s.heap.get? b=some o->s'.heap.get? b=some o'->h'.get? b=some o':=λh h'=>hs _ _ (λz=>xm (h.symm.trans (z▸hc))) h'
 ⟨e.le,e.off,λa o h n q=>(e.live a o h n q).elim λo' h'=>⟨o',k h h'⟩,λa o h n q=>k h (e.keep a o h n q),e.gens,e.os⟩
end
structure Base(w:World)(X:Em)(η:AH)(h:Heap):Prop where
 fz:∀{a o},X.fz a=some o->h.get? a=some o
 st:∀{a o},(objs w.params)[a]?=some o->X.fz a=some o
 ob:∀{r i o},η.get r i=some o->∃a,X.ad r i false=some a/\OR w X h a (X.ad r i true) (X.ep r i) o
 tD:∀{r i v e},X.ep r i v=some e->∃l u,η.get r i=some (.sd l u)/\v<=u
 dom:∀{r i b a},X.ad r i b=some a->(∃o,η.get r i=some o)/\∃o,h.get? a=some o
 nf:∀{r i b a},X.ad r i b=some a->X.fz a=none
 inj:∀{r i b r' i' b' a},X.ad r i b=some a->X.ad r' i' b'=some a->r'=r/\i'=i/\b'=b
theorem aeX{K:Type}[DecidableEq K]{w:World}{knd:KeyKind prog w K}{h:Heap}{a:Addr}{kvs:List (K×Value)}(x:h.DictOf knd a kvs)(k:∀o,h.get? a=some o->h'.get? a=some o):h'.DictOf knd a kvs:=
 x.elim λo z=>z.elim λes z=>z.elim λep z=>⟨o,es,ep,k o z.1,z.2⟩
theorem aeY{K:Type}[DecidableEq K]{w:World}{knd:KeyKind prog w K}{h:Heap}{a:Addr}{kvs:List (K×Value)}{e:Nat}(x:h.DictAt knd a kvs e)(k:∀o,h.get? a=some o->h'.get? a=some o):h'.DictAt knd a kvs e:=
 x.elim λo z=>z.elim λes z=>⟨o,es,k o z.1,z.2⟩
section
variable{w:World}{X Y:Em}{iY:AH}{h:Heap}{a c:Addr}{d d' e:Option Addr}{ep Qs:Nat->Option Nat}{o:AO}{i:Nat}
theorem q9.move{m:Str->Option Value}{k:Nat}(x:q9 h a m k)(q:∀o,h.get? a=some o->h'.get? a=some o):q9 h' a m k:=x.elim λo z=>z.elim λes z=>z.elim λep z=>⟨o,es,ep,q o z.1,z.2⟩
theorem OR.move(x:OR w X h a d ep o)(le:X.Le Y)(k:∀{o},h.get? a=some o->h'.get? a=some o)(kd:∀{dx o},d=some dx->h.get? dx=some o->h'.get? dx=some o)(hd:∀{dx},d=some dx->d'=some dx)(he:∀{v e},ep v=some e->Qs v=some e):OR w Y h' a d' Qs o:=by
 induction o using AO.casesOn with
|list l=>exact ay x λvs x=>x.elim λn x=>⟨vs,n,k x.1,x.2.mono le⟩
|sd l v=>exact ay x λkvs x=>x.elim λe x=>⟨kvs,e,he x.1,aeY x.2.1 λJ=>k,x.2.2.mono le⟩
|rY l=>exact ay x λkvs x=>⟨kvs,aeX x.1 λJ=>k,x.2.mono le⟩
|jm=>exact k x
|inst c fs=>exact ay x λdx x=>x.elim λm x=>⟨dx,m,hd x.1,k x.2.1,x.2.2.1.move λJ=>kd x.1,x.2.2.2.mono le⟩
theorem Base.Qt(B:Base w X η h)(t:X.kH a):∃o,h.get? a=some o:=t.elim (λh=>h.elim λo e=>⟨o,B.fz e⟩) λh=>h.elim λJ h=>h.elim λJ h=>h.elim λJ e=>(B.dom e).2
theorem Base.Ef(B:Base w X η h)(k:h.get? a=none):¬ X.kH a:=λt=>(B.Qt t).elim λJ e=>xm (e.symm.trans k)
theorem Base.off(B:Base w X η h)(k:h.objs.size<=a):¬ X.kH a:=B.Ef (bJ k)
theorem Base.move(B:Base w X η h)(k:∀{a o},X.kH a->h.get? a=some o->h'.get? a=some o):Base w X η h' where
 fz e:=k (yg e) (B.fz e)
 st:=B.st
 ob e:=(B.ob e).elim λa x=>⟨a,x.1,x.2.move (.refl X) (k (rg x.1)) (λe=>k (rg e)) id id⟩
 tD:=B.tD
 dom e:=⟨(B.dom e).1,(B.dom e).2.elim λo g=>⟨o,k (rg e) g⟩⟩
 nf:=B.nf
 inj:=B.inj
theorem Base.push(B:Base w X η h)(o:Obj):Base w X η (h.push o):=B.move λJ e=>bS o e
theorem Base.same(B:Base w X η h)(hc:¬ X.kH c)(hs:bY c h h'):Base w X η h':=B.move λt e=>(hs.2 _ λq=>hc (q▸t)).trans e
theorem Base.extBut(B:Base w X η h)(hc:¬ X.kH c)(e:dH c h h'):Base w X η h':=B.move λt g=>e _ _ (λq=>hc (q▸t)) g
noncomputable def Em.Bw(X:Em)(a:Addr)(o:Obj):Em:=⟨λb=>if b=a then some o else X.fz b,X.ad,X.ep⟩
theorem Em.Eg{o:Obj}(hn:¬ X.kH a):X.Le (X.Bw a o):=⟨λ{b o'} e=>(if_neg λq:b=a=>hn (q▸yg e)).trans e,id,id⟩
theorem aeZ{o:Obj}:(X.Bw a o).fz a=some o:=if_pos rfl
theorem Base.Bw(B:Base w X η h){o:Obj}(hn:¬ X.kH a)(e:h.get? a=some o):Base w (X.Bw a o) η h where
 fz {b o'} q:=by
  by_cases z:b=a
  ·exact z▸e.trans ((if_pos z).symm.trans q)
  ·exact B.fz ((if_neg z).symm.trans q)
 st q:=(Em.Eg hn).fz (B.st q)
 ob q:=(B.ob q).elim λc x=>⟨c,x.1,x.2.move (Em.Eg hn) id (λJ=>id) id id⟩
 tD:=B.tD
 dom:=B.dom
 nf {_ _ _ c} q:=(if_neg λz:c=a=>hn (z▸rg q)).trans (B.nf q)
 inj:=B.inj
theorem Base.step(B:Base w X η h)(le:X.Le Y)(IG:Y.fz=X.fz)(hg:∀r' i',iY.get r' i'=if r'=r/\i'=i then some o' else η.get r' i')
  (k:∀{b o},X.kH b->(∀t,Y.ad r i t≠some b)->h.get? b=some o->h'.get? b=some o) (ha:Y.ad r i false=some a) (x:OR w Y h' a (Y.ad r i true) (Y.ep r i) o')
  (old:∀{r' i' t c},Y.ad r' i' t=some c->X.ad r' i' t=some c\/(r'=r/\i'=i/\¬ X.kH c/\(t=true->c≠a))) (al:∀{t c},Y.ad r i t=some c->∃o,h'.get? c=some o)
  (oe:∀{r' i' v c},Y.ep r' i' v=some c->X.ep r' i' v=some c\/(r'=r/\i'=i)) (ee:∀{v c},Y.ep r i v=some c->∃l u,o'=.sd l u/\v<=u):Base w Y iY h':=by
 have far:∀{r' i' t t' c},X.ad r' i' t=some c->¬ (r'=r/\i'=i)->Y.ad r i t'≠some c:=λhx ne hy=>(old hy).elim (λz=>ne ⟨(B.inj z hx).1,(B.inj z hx).2.1⟩) λz=>z.2.2.1 (rg hx)
 have II:iY.get r i=some o':=(hg r i).trans (if_pos ⟨rfl,rfl⟩)
 have IJ:∀{r' i'},¬ (r'=r/\i'=i)->iY.get r' i'=η.get r' i':=λne=>(hg _ _).trans (if_neg ne)
 refine ⟨λq=>?_,λq=>IG▸B.st q,λ{r' i' o''} q=>?_,λ{r' i' v c} q=>?_,λ{r' i' t c} q=>?_,λq=>IG▸(old q).elim B.nf λz=>aeW z.2.2.1,λ{r1 i1 b r2 i2 b'} _ q q'=>?_⟩
 ·have q':=IG▸q
  exact k (yg q') (λt e=>(old e).elim (λz=>xm (q'.symm.trans (B.nf z))) λz=>z.2.2.1 (yg q')) (B.fz q')
 ·by_cases z:r'=r/\i'=i
  ·have e:o'=o'':=ai (II.symm.trans (z.1▸z.2▸q))
   rw [<-e,z.1,z.2]
   exact ⟨a,ha,x⟩
  ·exact (B.ob ((IJ z).symm.trans q)).elim λc y=>⟨c,le.ad y.1,y.2.move le (k (rg y.1) λJ=>far y.1 z) (λe=>k (rg e) λJ=>far e z) le.ad le.ep⟩
 ·by_cases z:r'=r/\i'=i
  ·rw [z.1,z.2] at q ⊢
   exact (ee q).elim λl y=>y.elim λu y=>⟨l,u,y.1▸II,y.2⟩
  ·rw [IJ z]
   exact (oe q).elim B.tD λy=>absurd y z
 ·by_cases z:r'=r/\i'=i
  ·rw [z.1,z.2] at q ⊢
   exact ⟨⟨o',II⟩,al q⟩
  ·rw [IJ z]
   refine (old q).elim (λy=>?_) λy=>absurd ⟨y.1,y.2.1⟩ z
   exact ⟨(B.dom y).1,(B.dom y).2.elim λo1 e1=>⟨o1,k (rg y) (λJ=>far y z) e1⟩⟩
 ·refine (old q).elim (λy=>(old q').elim (λy'=>B.inj y y') λy'=>absurd (rg y) y'.2.2.1) λy=>(old q').elim (λy'=>absurd (rg y') y.2.2.1) λy'=>⟨y'.1.trans y.1.symm,y'.2.1.trans y.2.1.symm,?_⟩
  rw [y.1,y.2.1] at q
  rw [y'.1,y'.2.1] at q'
  cases b
  ·cases b'
   ·rfl
   ·exact absurd (ai (q.symm.trans ha)) (y'.2.2.2 rfl)
  ·cases b'
   ·exact absurd (ai (q'.symm.trans ha)) (y.2.2.2 rfl)
   ·rfl
noncomputable def Em.put(X:Em)(r i:Nat)(a:Addr)(d e:Option Addr):Em:=⟨X.fz,λr' i' b=>if r'=r/\i'=i then cond b d (some a) else X.ad r' i' b,λr' i' v=>if r'=r/\i'=i/\v=0 then e else X.ep r' i' v⟩
noncomputable def Em.note(X:Em)(r i v:Nat)(e:Option Nat):Em:=⟨X.fz,X.ad,λr' i' v'=>if r'=r/\i'=i/\v'=v then e else X.ep r' i' v'⟩
theorem Bx(b:Bool):(X.put r i a d e).ad r i b=cond b d (some a):=if_pos ⟨rfl,rfl⟩
theorem Base.ae0(B:Base w X η h)(e:η.get r i=none)(b:Bool):X.ad r i b≠some a:=λq=>(B.dom q).1.elim λJ g=>xm (g.symm.trans e)
theorem Base.Qu(B:Base w X η h)(e:η.get r i=none)(v c:Nat):X.ep r i v≠some c:=λq=>(B.tD q).elim λJ z=>z.elim λJ z=>xm (z.1.symm.trans e)
theorem Base.zC(B:Base w X η h):X.Le (X.put η.reg η.iZ a d e) where
 fz:=id
 ad {r i b c} q:=(if_neg λz:r=η.reg/\i=η.iZ=>B.ae0 η.Eb b (z.1▸z.2▸q)).trans q
 ep {r i v c} q:=(if_neg λz:r=η.reg/\i=η.iZ/\v=0=>B.Qu η.Eb v c (z.1▸z.2.1▸q)).trans q
theorem Base.new(B:Base w X η h)(k:∀{b o},X.kH b->h.get? b=some o->h'.get? b=some o)(nw:∀{c},c=a\/d=some c->¬ X.kH c/\∃o,h'.get? c=some o)(da:d≠some a)(he:∀{c},e=some c->∃l u,o=.sd l u)
  (x:OR w (X.put η.reg η.iZ a d e) h' a d (λv=>if v=0 then e else none) o):Base w (X.put η.reg η.iZ a d e) (η.add o) h':=by
 have at_:∀{t c},(X.put η.reg η.iZ a d e).ad η.reg η.iZ t=some c->c=a/\t=false\/d=some c/\t=true:=λ{t c} q=>by
  rw [Bx] at q
  cases t
  ·exact .inl ⟨(ai q).symm,rfl⟩
  ·exact .inr ⟨q,rfl⟩
 refine B.step (Y:=X.put η.reg η.iZ a d e) (a:=a) B.zC rfl (AH.wJ η o) (λt J=>k t) (Bx false) ?_ (λ{r' i' t c} q=>?_) (λq=>(nw ((at_ q).imp And.left And.left)).2) (λ{r' i' v c} q=>?_) λ{v c} q=>?_
 ·rw [Bx]
  refine x.move (.refl _) id (λJ=>id) id λ{v c} q=>?_
  by_cases z:v=0
  ·exact (if_pos ⟨rfl,rfl,z⟩).trans ((if_pos z).symm.trans q)
  ·exact xn ((if_neg z).symm.trans q)
 ·by_cases z:r'=η.reg/\i'=η.iZ
  ·rw [z.1,z.2] at q
   refine .inr ⟨z.1,z.2,?_⟩
   rcases at_ q with y|y
   ·exact ⟨(nw (.inl y.1)).1,λt=>xf (y.2.symm.trans t)⟩
   ·exact ⟨(nw (.inr y.1)).1,λJ g=>da (g▸y.1)⟩
  ·exact .inl ((if_neg z).symm.trans q)
 ·by_cases z:r'=η.reg/\i'=η.iZ
  ·exact .inr z
  ·exact .inl ((if_neg λy=>z ⟨y.1,y.2.1⟩).symm.trans q)
 ·by_cases z:v=0
  ·exact (he ((if_pos ⟨rfl,rfl,z⟩).symm.trans q)).elim λl y=>y.elim λu y=>⟨l,u,y,z▸bx u⟩
  ·exact absurd ((if_neg λy=>z y.2.2).symm.trans q) (B.Qu η.Eb v c)
theorem Em.ae1{v:Nat}{e:Option Nat}(hn:∀c,X.ep r i v≠some c):X.Le (X.note r i v e):=⟨id,id,λq=>(if_neg λz=>hn _ (z.1▸z.2.1▸z.2.2▸q)).trans q⟩
theorem Base.ae2(B:Base w X η h):Base w X η.fresh h:=⟨B.fz,B.st,λe=>B.ob ((AH.Bu ..).symm.trans e),λq=>(AH.Bu ..).symm▸B.tD q,λq=>(AH.Bu ..).symm▸B.dom q,B.nf,B.inj⟩
end
inductive GE(w:World)(X:Em)(s:Shared)(η:AH)(p:PV)(v:Value)(s':Shared):Prop
|mk {Y:Em} (e:Ext X s no Y s') (b:Base w Y η s'.heap) (r:VR Y v p)
section
variable{w:World}{X Y:Em}{s s₁ s':Shared}{iY:AH}{p p':PV}{v:Value}{i:Nat}{a c:Addr}{d e:Option Addr}{o:AO}{t:Nat}
theorem GE.tok(B:Base w X η s.heap)(r:VR X v p):GE w X s η p v { s with toks:=t }:=⟨.tok ..,B,r⟩
theorem made(E:Ext X s no Y s₁)(B:Base w Y η s₁.heap)(nw:∀{c},c=a\/d=some c->s.heap.get? c=none/\¬ Y.kH c/\∃o,h'.get? c=some o)(da:d≠some a)(hs:∀{b o},¬ (b=a\/d=some b)->s₁.heap.get? b=some o->h'.get? b=some o)
  (he:∀{c},e=some c->∃l u,o=.sd l u) (x:OR w (Y.put η.reg η.iZ a d e) h' a d (λv=>if v=0 then e else none) o):GE w X s (η.add o) (.ref η.reg η.iZ) (.ref a) { s₁ with heap:=h',toks:=t }:=by
 refine ⟨⟨E.le.trans B.zC,λ{b o} h n q=>?_,λJ J J J q=>q.elim,λb o h n f=>hs (λz=>xm (h.symm.trans (nw z).1)) (E.keep b o h n f),E.gens,E.os⟩,B.new (λq h=>hs (λz=>(nw z).2.1 q) h) (λz=>(nw z).2) da he x,.ref (Bx false)⟩
 rcases q with q|⟨r',i',b,q⟩
 ·exact E.off h n (.inl q)
 ·by_cases z:r'=η.reg/\i'=η.iZ
  ·rw [z.1,z.2,Bx] at q
   refine xm (h.symm.trans (nw ?_).1)
   cases b
   ·exact .inl (ai q).symm
   ·exact .inr q
  ·exact E.off h n (rg ((if_neg z).symm.trans q))
theorem frozen(B:Base w X η s.heap)(ob:Obj)(hf:ob.isFreed=false)(r:∀{Y:Em},X.Le Y->Y.fz s.heap.objs.size=some ob->VR Y (.ref s.heap.objs.size) p):GE w X s η p (.ref s.heap.objs.size) { s with heap:=s.heap.push ob,toks:=t }:=by
 have off:¬ X.kH s.heap.objs.size:=B.off (ak _)
 refine ⟨⟨Em.Eg off,λ{b o} h n q=>?_,λJ J J J q=>q.elim,λJ J h J J=>bS _ h,rfl,rfl⟩,(B.push ob).Bw off (bK _ hf),r (Em.Eg off) aeZ⟩
 rcases q with ⟨o,q⟩|q
 ·exact n (yg ((if_neg λz:b=_=>aM _ (z▸cH h)).symm.trans q))
 ·exact n (.inr q)
theorem upd{k:Bool}(B:Base w X η s.heap)(g:η.get r i=some o)(ec:X.ad r i k=some c)(hs:bY c s.heap h')(al:∃o,h'.get? c=some o)(le:X.Le Y)(Qv:Y.fz=X.fz)(zD:Y.ad=X.ad)
  (oe:∀{r' i' v c},Y.ep r' i' v=some c->X.ep r' i' v=some c\/(r'=r/\i'=i)) (ee:∀{v c},Y.ep r i v=some c->∃l u,o'=.sd l u/\v<=u) (ha:X.ad r i false=some a) (x:OR w Y h' a (X.ad r i true) (Y.ep r i) o') :
  Ext X s no Y { s with heap:=h',toks:=t }/\Base w Y (η.set r i o') h':=by
 have tY:∀{b},Y.kH b->X.kH b:=λq=>by
  unfold Em.kH at q ⊢
  rwa [Qv,zD] at q
 refine ⟨⟨le,λJ n q=>n (tY q),λJ J J J q=>q.elim,λb o e n J=>(hs.2 b λq=>n (q▸rg ec)).trans e,rfl,rfl⟩,?_⟩
 refine B.step le Qv (AH.get_set g) (λ{b o} _ n e=>(hs.2 b λq=>n k (by rw [q,zD];exact ec)).trans e) (zD▸ha) (zD▸x) (λq=>.inl (zD▸q)) (λ{t c'} q=>?_) oe ee
 by_cases z:c'=c
 ·exact z▸al
 ·exact (B.dom (zD▸q)).2.elim λo1 e=>⟨o1,(hs.2 c' z).trans e⟩
end
end
set_option backward.match.sparseCases false
noncomputable def Eh(l:List Nat):Nat:=l.foldr (λc n=>c+1114112*n) 0
noncomputable def vz:List Nat->List Nat->Bool
|[],[]=>true
|a::x,b::y=>cond (aj a b) (vz x y) false
|_,_=>false
theorem Qw{x:List Nat}:∀{y:List Nat},vz x y=true↔x=y:=by
 induction x with
|nil=>
  intro y
  cases y with
 |nil=>exact ⟨λJ=>rfl,λJ=>rfl⟩
 |cons _ _=>exact ⟨λh=>(nomatch h),λh=>(nomatch h)⟩
|cons a x ih=>
  intro y
  cases y with
 |nil=>exact ⟨λh=>(nomatch h),λh=>(nomatch h)⟩
 |cons b y=>
   refine xd (aj a b) (λh=>?_) λh=>?_
   ·rw [<-aP h]
    exact ⟨λq=>congrArg _ (ih.mp ((congrArg (λc=>cond c (vz x y) false) (bZ a)).symm.trans q)),λq=>(congrArg (λc=>cond c (vz x y) false) (bZ a)).trans (ih.mpr (List.cons.inj q).2)⟩
   ·exact ⟨λq=>xf ((congrArg (λc=>cond c (vz x y) false) h).symm.trans q),λq=>absurd (List.cons.inj q).1 (gY h)⟩
def sq(a b:Str):Bool:=cond (aj (Eh a.cps.toList) (Eh b.cps.toList)) (vz a.cps.toList b.cps.toList) false
theorem jS{a b:Str}:sq a b=true↔a=b:=by
 refine ⟨λh=>?_,λh=>?_⟩
 ·refine xd (aj (Eh a.cps.toList) (Eh b.cps.toList)) (λc=>?_) λc=>?_
  ·have h:=Qw.mp ((congrArg (λc=>cond c (vz a.cps.toList b.cps.toList) false) c).symm.trans h)
   cases a;cases b
   exact congrArg bh (Array.toList_inj.mp h)
  ·exact xf ((congrArg (λc=>cond c (vz a.cps.toList b.cps.toList) false) c).symm.trans h)
 ·rw [h]
  exact (congrArg (λc=>cond c (vz b.cps.toList b.cps.toList) false) (bZ _)).trans (Qw.mpr rfl)
def ja{α:Type}:List (Str×α)->Str->Option α
|[],_=>none
|(y,v)::r,x=>cond (sq y x) (some v) (ja r x)
def jz{α:Type}:List (Str×α)->Str->α->List (Str×α)
|[],x,v=>[(x,v)]
|(y,u)::r,x,v=>cond (sq y x) ((y,v)::r) ((y,u)::jz r x v)
noncomputable def ri{α:Type}:List (Int×α)->Int->Option α
|[],_=>none
|(y,v)::r,x=>cond (decide (y=x)) (some v) (ri r x)
noncomputable def vA{α:Type}:List (Int×α)->Int->α->List (Int×α)
|[],x,v=>[(x,v)]
|(y,u)::r,x,v=>cond (decide (y=x)) ((y,v)::r) ((y,u)::vA r x v)
def oN(l:List Str)(x:Str):Bool:=l.any (sq · x)
set_option genCtorIdx false in
inductive Fl where
|next|cont
|ret (v:PV)
noncomputable def lim:Nat:=65536
def kB(n:Nat):Bool:=bA n lim
set_option genCtorIdx false in
structure rj where
 st:Stmt
 dflt:List PV
set_option genCtorIdx false in
structure Tab where
 glob:List (Str×PV)
 pG:List (Addr×rj)
 oA:List (Addr×Addr)
 meths:List (Addr×List (Str×Addr))
 fields:List (Addr×List Str)
 bases:List (Addr×List Addr)
 tE:List (Addr×List (Str×PV))
noncomputable def jv{α:Type}:List (Addr×α)->Addr->Option α
|[],_=>none
|(y,v)::r,x=>cond (aj y x) (some v) (jv r x)
noncomputable def Qx(c:Const):Option PV:=match c with
|.none=>some .none
|.bool b=>some (.bool b)
|.int i=>some (.int i)
|.str s=>some (.str s)
|_=>none
def kindS(sc:Scope)(x:Str):Option NameKind:=ja sc.names x
noncomputable def gI:PV->Option Int
|.int i=>some i
|_=>none
noncomputable def gS:PV->Option Str
|.str s=>some s
|_=>none
noncomputable def gT:PV->Option (List PV)
|.tup l=>some l
|_=>none
noncomputable def gR:PV->Option (Nat×Nat)
|.ref r i=>some (r,i)
|_=>none
noncomputable def gV:PV->Option Value
|.st v=>some v
|_=>none
noncomputable def AO.lst:AO->Option (List PV)
|.list l=>some l
|_=>none
noncomputable def AO.dct:AO->Option (List (Str×PV)×Nat)
|.sd l u=>some (l,u)
|_=>none
noncomputable def AO.ins:AO->Option (Addr×List (Str×PV))
|.inst c fs=>some (c,fs)
|_=>none
abbrev AH.lst(η:AH)(r i:Nat):Option (List PV):=(η.get r i).bind AO.lst
abbrev AH.dct(η:AH)(r i:Nat):Option (List (Str×PV)×Nat):=(η.get r i).bind AO.dct
abbrev AH.ins(η:AH)(r i:Nat):Option (Addr×List (Str×PV)):=(η.get r i).bind AO.ins
def nZ(v:PV)(η:AH):Option (List PV):=(gR v).bind λp=>η.lst p.1 p.2
def wK(v:PV)(η:AH):Option (List (Str×PV)):=(gR v).bind λp=>(η.dct p.1 p.2).map (·.1)
def clsOf(v:PV)(η:AH):Option Addr:=(gR v).bind λp=>(η.ins p.1 p.2).map (·.1)
noncomputable def one{α:Type}:List α->Option α
|[v]=>some v
|_=>none
noncomputable def two:List PV->Option (PV×PV)
|[v,u]=>some (v,u)
|_=>none
noncomputable def lW:PV->Bool
|.none=>true
|_=>false
noncomputable def zE:PV->Bool
|.tup _=>true
|_=>false
def mP(v:PV)(η:AH):Option Bool:=match v with
|.none=>some false
|.bool b=>some b
|.int i=>some (!decide (i=0))
|.str s=>cond (kB s.length) (some (!aj s.length 0)) none
|.ref r i=>(η.lst r i).bind λl=>cond (kB l.length) (some (!l.isEmpty)) none
|_=>none
noncomputable def zF(f:PV->PV->Option Bool):List PV->List PV->Option Bool
|[],[]=>some true
|a::r,b::q=>(f a b).bind λe=>(zF f r q).map (e && ·)
|_,_=>none
def IK(a b:PV):Option Bool:=(gS a).bind λx=>(gS b).map λy=>sq x y
abbrev zG:List PV->List PV->Option Bool:=zF IK
def oB(a b:PV):Option Bool:=match a with
|.none=>match b with
 |.none=>some true
 |.str _=>some false
 |.bool _=>some false
 |_=>none
|.bool x=>match b with
 |.none=>some false
 |.bool y=>some (x == y)
 |_=>none
|.int x=>(gI b).map λy=>decide (x=y)
|.str x=>match b with
 |.none=>some false
 |.str y=>some (sq x y)
 |_=>none
|.tup x=>(gT b).bind (zG x)
|_=>none
abbrev By:List PV->List PV->Option Bool:=zF oB
noncomputable def sameAt(a b:PV):Bool:=match a with
|.ref r i=>match b with
 |.ref r' i'=>aj r r' && aj i i'
 |_=>false
|_=>false
def uB(a b:PV)(η:AH):Option Bool:=match gR a with
|some _=>(nZ a η).bind λl=>(nZ b η).bind λl'=>cond (aj l.length l'.length) (cond (sameAt a b) none (By l l')) (some false)
|none=>oB a b
def rZ(a:PV):List PV->Option Bool
|[]=>some false
|b::r=>(oB b a).bind λe=>(rZ a r).map (e || ·)
def se(a b:PV)(η:AH):Option Bool:=match gT b with
|some l=>rZ a l
|none=>(gR b).bind λp=>(η.get p.1 p.2).bind λo=>match o with
 |.list l=>rZ a l
 |.sd l _=>(gS a).map λs=>(ja l s).isSome
 |.rY l=>(gI a).map λs=>(ri l s).isSome
 |.jm=>cond ((gS a).isSome || (gI a).isSome) (some false) none
 |_=>none
def IL(f:Int->Int->Bool)(a b:PV):Option Bool:=(gI a).bind λx=>(gI b).map (f x)
def mQ(op:CmpOp)(a b:PV)(η:AH):Option Bool:=match op with
|.Is=>cond (lW b) (some (lW a)) none
|.IsNot=>cond (lW b) (some (!lW a)) none
|.Eq=>uB a b η
|.NotEq=>cond (zE a) none ((uB a b η).map (!·))
|.In=>se a b η
|.NotIn=>(se a b η).map (!·)
|.Lt=>IL (λx y=>decide (x<y)) a b
|.Gt=>IL (λx y=>decide (y<x)) a b
|.GtE=>IL (λx y=>decide (y<=x)) a b
|_=>none
noncomputable def IQ(op:Operator)(x y:Int):Option Int:=match op with
|.Add=>some (x+y)
|.Mult=>cond (aY y.natAbs 1073741824) (some (x*y)) none
|.FloorDiv=>cond (decide (0<y) && aY y.natAbs 1073741824) (some (Int.fdiv x y)) none
|.Mod=>cond (decide (0<y)) (some (cI x y)) none
|.Pow=>cond (decide (x=10) && decide (0<=y) && decide (y<=200)) (some (x ^ y.toNat)) none
|_=>none
noncomputable def Ei:Operator->Bool
|.Add=>true
|_=>false
noncomputable def Qy:Operator->Bool
|.Mult=>true
|_=>false
def tF(η:AH)(l:List PV):PV×AH:=(.ref η.reg η.iZ,η.add (.list l))
def qK(op:Operator)(a b:PV)(η:AH):Option (PV×AH):=match a with
|.int x=>(gI b).bind λy=>(IQ op x y).map λz=>(.int z,η)
|.str x=>(gS b).bind λy=>cond (Ei op && kB (x.length+y.length)) (some (.str (x++y),η)) none
|.ref r i=>(η.lst r i).bind λl=>match gI b with
 |some k=>cond (Qy op && decide (0<=k) && decide (k<=3) && kB (3*l.length)) (some (tF η (bq k.toNat l).flatten)) none
 |none=>(nZ b η).bind λl'=>cond (Ei op && kB (l.length+l'.length)) (some (tF η (l++l'))) none
|_=>none
noncomputable def oh:PV->Bool
|.st (.builtin _)=>false
|_=>true
def jV(T:Tab)(o:PV)(a:Str)(η:AH):Option PV:=(gR o).bind λp=>(η.ins p.1 p.2).bind λc=>(jv T.fields c.1).bind λns=>cond (oN ns a) ((ja c.2 a).bind λp=>cond (oh p) (some p) none) none
def sf(T:Tab)(o:PV)(a:Str)(v:PV)(η:AH):Option AH:=(gR o).bind λp=>(η.ins p.1 p.2).bind λc=>(jv T.fields c.1).bind λns=>cond (oN ns a && kB (c.2.length+1)) (some (η.set p.1 p.2 (.inst c.1 (jz c.2 a v)))) none
def yh(k:PV):Option Nat:=(gI k).bind λj=>cond (decide (0<=j) && decide (j<65536)) (some j.toNat) none
def jD(T:Tab)(o k:PV)(η:AH):Option PV:=match o with
|.tup l=>(yh k).bind λj=>l[j]?
|.str s=>(yh k).bind λj=>cond (aY j s.length) (some (.str (bh #[s.cps.getD j 0]))) none
|.st (.ref a)=>(gS k).bind λx=>(jv T.tE a).bind λl=>ja l x
|.ref r i=>(η.get r i).bind λo=>match o with
 |.list l=>(yh k).bind λj=>l[j]?
 |.sd l _=>(gS k).bind λx=>ja l x
 |_=>none
|_=>none
def Ej(o:AO)(k v:PV):Option AO:=match o with
|.sd l u=>(gS k).bind λx=>cond (kB (l.length+1)) (some (.sd (jz l x v) (u+1))) none
|.rY l=>(gI k).bind λx=>cond (kB (l.length+1)) (some (.rY (vA l x v))) none
|.jm=>match k with
 |.str x=>some (.sd [(x,v)] 0)
 |.int x=>some (.rY [(x,v)])
 |_=>none
|_=>none
def mV(o k v:PV)(η:AH):Option AH:=(gR o).bind λp=>(η.get p.1 p.2).bind λo=>match o.lst with
|some l=>(yh k).bind λj=>cond (aY j l.length && kB l.length) (some (η.set p.1 p.2 (.list (l.set j v)))) none
|none=>(Ej o k v).map (η.set p.1 p.2)
set_option genCtorIdx false in
inductive Src where
|lst (r i:Nat)
|vals (l:List PV)
|mr (a b:Int)
|keys (r i v n:Nat)
|nil (r i:Nat)
|rev (r i n:Nat)
def tG(v:PV)(η:AH):Option Src:=match v with
|.ref r i=>(η.get r i).bind λo=>match o with
 |.list _=>some (.lst r i)
 |.sd l u=>cond (kB l.length) (some (.keys r i u l.length)) none
 |.jm=>some (.nil r i)
 |_=>none
|.tup l=>some (.vals l)
|.mr a b=>cond (decide (0<=a) && decide (a<=b) && decide (b<=65536)) (some (.mr a b)) none
|_=>none
def Src.len(S:Src)(η:AH):Nat:=match S with
|.lst r i=>((η.lst r i).getD []).length
|.vals l=>l.length
|.mr a b=>(b - a).toNat
|.keys _ _ _ n=>n
|.nil _ _=>0
|.rev _ _ n=>n
def Src.at(S:Src)(k:Nat)(η:AH):Option (Option PV):=match S with
|.lst r i=>(η.lst r i).bind λl=>cond (kB l.length) (some l[k]?) none
|.vals l=>some l[k]?
|.mr a b=>some (cond (decide (a+k<b)) (some (.int (a+k))) none)
|.keys r i v n=>(η.dct r i).bind λd=>cond (aj d.2 v && aj d.1.length n) (some (d.1[k]?.map λp=>.str p.1)) none
|.nil r i=>(η.get r i).bind λo=>match o with
 |.jm=>some none
 |_=>none
|.rev r i n=>cond (aY k n) ((η.lst r i).bind λl=>cond (kB l.length) ((l[n - 1 - k]?).map some) none) (some none)
def tH(sc:Scope)(x:Str):Bool:=match kindS sc x with
|some .local=>true
|some .cell=>true
|_=>false
noncomputable def Qz:Str:=bh #[95,95,100,101,98,117,103,95,95]
noncomputable def QB:Str:=bh #[95,95,99,108,97,115,115,100,105,99,116,95,95]
def IU(sc:Scope):Bool:=sc.names.all λp=>!(sq p.1 Qz) && !(sq p.1 QB)
def QC(sc:Scope):Bool:=IU sc && sc.names.all λp=>!decide (p.2=.free)
def Ek(jo:Scope):Bool:=IU jo && decide (jo.kind=.function) && jo.names.all λp=>!decide (p.2=.cell) && decide (kindS jo p.1=some p.2)
noncomputable def BD:Expr->Bool
|.Set _ _ _=>false
|_=>true
def wL(r i:Nat)(v:PV)(η:AH):Option AH:=(η.lst r i).bind λl=>cond (kB (l.length+1)) (some (η.set r i (.list (l++[v])))) none
noncomputable def yi:Option AO->Bool
|some (.list _)=>false
|_=>true
def yj(v:PV):List PV->Nat->Option Nat
|[],_=>none
|b::r,k=>(oB b v).bind λe=>cond e ((rZ v r).map λJ=>k) (yj v r (k+1))
def wM(acc:List (Str×PV)):List (Str×PV)->List (Str×PV)
|[]=>acc
|(x,v)::r=>wM (jz acc x v) r
noncomputable def sj:Str:=bh #[97,112,112,101,110,100]
noncomputable def sr:Str:=bh #[101,120,116,101,110,100]
noncomputable def su:Str:=bh #[112,111,112]
noncomputable def tL:Str:=bh #[105,110,100,101,120]
noncomputable def oY:Str:=bh #[103,101,116]
noncomputable def tN:Str:=bh #[117,112,100,97,116,101]
def El(r i:Nat)(v:PV):Bool:=!sameAt (.ref r i) v
def ae3(r i:Nat)(l:List PV)(name:Str)(vs:List PV)(η:AH):Option (PV×AH):=
 cond (sq name sj) ((one vs).bind λv=>cond (kB (l.length+1)) (some (.none,η.set r i (.list (l++[v])))) none)
 (cond (sq name sr) ((one vs).bind λv=>(nZ v η).bind λl'=>cond (kB (l.length+l'.length) && El r i v) (some (.none,η.set r i (.list (l++l')))) none)
 (cond (sq name su) (cond vs.isEmpty (l.getLast?.bind λv=>cond (kB l.length) (some (v,η.set r i (.list l.dropLast))) none) none)
 (cond (sq name tL) ((one vs).bind λv=>(yj v l 0).bind λk=>cond (kB l.length) (some (.int k,η)) none) none)))
def getM(l:List (Str×PV))(vs:List PV):Option PV:=match two vs with
|some p=>(gS p.1).map λx=>(ja l x).getD p.2
|none=>(one vs).bind λp=>(gS p).map λx=>(ja l x).getD .none
def ae4(r i:Nat)(l:List (Str×PV))(u:Nat)(name:Str)(vs:List PV)(η:AH):Option (PV×AH):=
 cond (sq name oY) ((getM l vs).map (·,η))
 (cond (sq name tN) ((one vs).bind λv=>(wK v η).bind λl'=>cond (kB (l.length+l'.length) && El r i v) (some (.none,η.set r i (.sd (wM l l') (u+1)))) none) none)
set_option genCtorIdx false in
inductive MS where
|lst (r i:Nat)
|dct (r i:Nat)
|stat (a:Addr)
|fn (f:Addr) (o:Option PV)
def pg(T:Tab)(ov:PV)(name:Str)(η:AH):Option MS:=match ov with
|.ref r i=>(η.get r i).bind λo=>match o with
 |.list _=>cond (sq name sj || sq name sr || sq name su || sq name tL) (some (.lst r i)) none
 |.sd _ _=>cond (sq name oY || sq name tN) (some (.dct r i)) none
 |.jm=>cond (sq name oY) (some (.dct r i)) none
 |.inst c fs=>(jv T.meths c).bind λms=>(ja ms name).bind λf=>cond (ja fs name).isNone (some (.fn f (some ov))) none
 |_=>none
|.st (.ref a)=>match jv T.tE a with
 |some _=>cond (sq name oY) (some (.stat a)) none
 |none=>(jv T.meths a).bind λms=>(ja ms name).map λf=>.fn f none
|_=>none
def tP(T:Tab)(m:MS)(name:Str)(vs:List PV)(η:AH):Option (PV×AH):=match m with
|.lst r i=>(η.lst r i).bind λl=>ae3 r i l name vs η
|.dct r i=>(η.get r i).bind λo=>match o with
 |.sd l u=>ae4 r i l u name vs η
 |.jm=>cond (sq name oY) ((getM [] vs).map (·,η)) none
 |_=>none
|.stat a=>(jv T.tE a).bind λl=>(getM l vs).map (·,η)
|.fn _ _=>none
def En(o kv:PV)(η:AH):Option (PV×AH):=(yh kv).bind λk=>match o with
|.fl l=>cond (kB l.length) (some (tF η (l.take k))) none
|o=>(nZ o η).bind λl=>cond (kB l.length) (some (tF η (l.take k))) none
def IV(o:PV)(η:AH):Option (PV×AH):=(nZ o η).bind λl=>cond (kB l.length) (some (tF η l.reverse)) none
def ro(rv:Bool)(v:PV)(η:AH):Option Src:=cond rv ((gR v).bind λp=>(η.lst p.1 p.2).bind λl=>cond (kB l.length) (some (.rev p.1 p.2 l.length)) none) (tG v η)
noncomputable def QD:Expr->Bool
|.Constant c _ _=>match c with
 |.int i=>decide (i=1)
 |_=>false
|_=>false
noncomputable def ae5:UnaryOp->Bool
|.USub=>true
|_=>false
def Eo:Expr->Bool
|.UnaryOp op x _=>ae5 op && QD x
|_=>false
noncomputable def BE:Expr->Option Str
|.Name x _=>some x
|_=>none
noncomputable def isStar:Expr->Bool
|.Starred _ _=>true
|_=>false
def zH:Expr->Bool
|.Call g _ _ _=>match BE g with
 |some id=>!(id == ("super":Str))
 |none=>true
|_=>true
def callee(T:Tab):PV->Bool
|.st (.ref a)=>(jv T.pG a).isSome || (jv T.oA a).isSome
|.st (.builtin _)=>true
|.st (.type _)=>true
|_=>false
noncomputable def isSlice:Expr->Bool
|.Slice _ _ _ _=>true
|_=>false
noncomputable def yk:Expr->Bool
|.ListComp _ _ _ _=>true
|.DictComp _ _ _ _ _=>true
|.SetComp _ _ _ _=>true
|_=>false
noncomputable def IW:Expr->Bool
|.Tuple vs _ _=>!(vs.all (constantsAlone 8)) || vs.all (foldedForSure 8)
|_=>true
noncomputable def ae6:Str:=bh #[114,101,118,101,114,115,101,100]
def IX:Expr->Option (Str×Expr)
|.Call g as ks _=>(BE g).bind λf=>(one as).bind λa=>cond (ks.isEmpty && sq f ae6) (some (f,a)) none
|_=>none
noncomputable def BF:Expr->Option (List Expr)
|.Tuple ts _ _=>some ts
|_=>none
noncomputable def bindG{α:Type}(xs:List Str)(ds vs:List α):Option (List (Str×α)):=cond (bA vs.length xs.length && bA (xs.length - ds.length) vs.length) (some (xs.zip (vs++ds.drop (vs.length - (xs.length - ds.length))))) none
noncomputable abbrev Loc:=List (Str×PV)
abbrev IY:List Str->List PV->List PV->Option Loc:=bindG
noncomputable def zI:PV->Option String
|.none=>some "NoneType"
|.bool _=>some "bool"
|.int _=>some "int"
|.str _=>some "str"
|.tup _=>some "tuple"
|_=>none
def yl(v:PV)(η:AH)(f:String->Option Bool)(g:Addr->Option Bool):Option Bool:=match zI v with
|some t=>f t
|none=>(clsOf v η).bind g
def QG(v:PV)(t:PV)(T:Tab)(η:AH):Option Bool:=(gV t).bind λu=>match u with
|.type n=>cond (n == "bool" || n == "int" || n == "str") (yl v η (λt=>some (t == n || (t == "bool" && n == "int"))) λc=>(jv T.bases c).map λJ=>false) none
|.ref C=>cond (jv T.bases C).isSome (yl v η (λJ=>some false) λc=>(jv T.bases c).map λbs=>bs.contains C) none
|_=>none
def keyOf(p:PV):Option (Int×Int):=(gT p).bind λl=>(two l).bind λq=>(gS q.2).bind λJ=>(gT q.1).bind λl=>match l with
|[a,b,.bool _]=>(gI a).bind λx=>(gI b).map λy=>(x,y)
|_=>none
def BG(p:PV):List PV->Option (List PV)
|[]=>some [p]
|q::r=>(keyOf p).bind λa=>(keyOf q).bind λc=>cond (decide (a.1<c.1) || (decide (a.1=c.1) && decide (a.2<c.2))) (some (p::q::r)) (cond (decide (a.1=c.1) && decide (a.2=c.2)) none ((BG p r).map (q::·)))
def wN:List PV->Option (List PV)
|[]=>some []
|p::r=>(wN r).bind (BG p)
def QH(v:PV)(η:AH):Option (PV×AH):=match v with
|.fl l=>cond (kB l.length) (some (.int l.length,η)) none
|v=>(nZ v η).bind λl=>cond (kB l.length) (some (.int l.length,η)) none
def QI(v:PV)(η:AH):Option (PV×AH):=(gI v).map λi=>(.int i.natAbs,η)
def QJ(v:PV)(η:AH):Option (PV×AH):=(gI v).bind λk=>cond (decide (0<=k) && decide (k<=65536)) (some (.mr 0 k,η)) none
noncomputable def QK(v:PV)(η:AH):Option (PV×AH):=match v with
|.bool b=>some (.int (cond b 1 0),η)
|_=>none
def QL(v:PV)(η:AH):Option (PV×AH):=(nZ v η).bind λl=>cond (bA 2 l.length && bA l.length 60) ((wN l).map (tF η)) none
def QM(v:PV)(η:AH):Option (PV×AH):=(wK v η).bind λl=>cond (kB l.length) (some (.ref η.reg η.iZ,η.add (.sd l 0))) none
def listE(v:PV)(η:AH):Option (PV×AH):=(wK v η).bind λl=>cond (kB l.length) (some (tF η (l.map λp=>.str p.1))) none
noncomputable def BH(v:Value)(n:String):Bool:=match v with
|.builtin m=>m == n
|_=>false
noncomputable def zJ(v:Value)(n:String):Bool:=match v with
|.type m=>m == n
|_=>false
def qk(T:Tab)(f:Value)(vs:List PV)(η:AH):Option (PV×AH):=
 cond (BH f "isinstance") ((two vs).bind λp=>(QG p.1 p.2 T η).map λb=>(.bool b,η))
 ((one vs).bind λv=>cond (BH f "len") (QH v η) (cond (BH f "abs") (QI v η) (cond (BH f "sorted") (QL v η)
  (cond (zJ f "range") (QJ v η) (cond (zJ f "int") (QK v η) (cond (zJ f "dict") (QM v η) (cond (zJ f "list") (listE v η) none)))))))
noncomputable def rq:Stmt->List Str
|.FunctionDef _ a _ _ _ _ _ _ _ _=>a.args.map (·.arg)
|_=>[]
noncomputable def bodyOf:Stmt->List Stmt
|.FunctionDef _ _ b _ _ _ _ _ _ _=>b
|_=>[]
noncomputable def tQ:Stmt->Scope
|.FunctionDef _ _ _ _ _ _ sc _ _ _=>sc
|_=>⟨.module,[],false,false,[]⟩
section
theorem uC(a b:Str):sq a b=decide (a=b):=by
 by_cases h:a=b
 ·rw [decide_eq_true h];exact jS.mpr h
 ·rw [decide_eq_false h];exact xd (sq a b) (λq=>absurd (jS.mp q) h) id
theorem IZ(a b:Str):sq a b=(a == b):=by
 rw [uC];exact (gZ a b).symm
section
variable{K:Type}[DecidableEq K]
noncomputable def uD:List (K×PV)->K->Option PV
|[],_=>none
|(y,v)::r,x=>if y=x then some v else uD r x
noncomputable def ym:List (K×PV)->K->PV->List (K×PV)
|[],x,v=>[(x,v)]
|(y,u)::r,x,v=>if y=x then (y,v)::r else (y,u)::ym r x v
theorem tR{α:Type}{p:Prop}[Decidable p]{b:Bool}(h:b=decide p)(x y:α):cond b x y=if p then x else y:=by
 rw [h]
 by_cases q:p
 ·rw [if_pos q,decide_eq_true q];rfl
 ·rw [if_neg q,decide_eq_false q];rfl
theorem Ja(l:List (Str×PV))(x:Str):ja l x=uD l x:=by
 induction l with
|nil=>rfl
|cons p r ih=>exact (tR (uC p.1 x) _ _).trans (by rw [ih];rfl)
theorem ae7(l:List (Int×PV))(x:Int):ri l x=uD l x:=by
 induction l with
|nil=>rfl
|cons p r ih=>exact (tR rfl _ _).trans (by rw [ih];rfl)
theorem QN(l:List (Str×PV))(x:Str)(p:PV):jz l x p=ym l x p:=by
 induction l with
|nil=>rfl
|cons q r ih=>exact (tR (uC q.1 x) _ _).trans (by rw [ih];rfl)
theorem ae8(l:List (Int×PV))(x:Int)(p:PV):vA l x p=ym l x p:=by
 induction l with
|nil=>rfl
|cons q r ih=>exact (tR rfl _ _).trans (by rw [ih];rfl)
theorem wO{α:Type}(l:List (Str×α))(x:Str):ja l x=l.lookup x:=by
 induction l with
|nil=>rfl
|cons p r ih=>
  refine (tR (uC p.1 x) _ _).trans ?_
  rw [ih,bB]
  by_cases h:p.1=x
  ·rw [if_pos h,beq_iff_eq.mpr h.symm]
  ·rw [if_neg h,beq_eq_false_iff_ne.mpr (cX h)]
theorem vC{α:Type}(l:List (Str×α))(x y:Str)(v:α):ja (jz l x v) y=if y=x then some v else ja l y:=by
 induction l with
|nil=>exact (tR (uC x y) _ _).trans (ite_congr (propext eq_comm) (λJ=>rfl) λJ=>rfl)
|cons p r ih=>
  show ja (cond (sq p.1 x) ((p.1,v)::r) (p::jz r x v)) y=if y=x then _ else cond (sq p.1 y) (some p.2) (ja r y)
  rw [tR (uC p.1 x),tR (uC p.1 y)]
  by_cases h:p.1=x
  ·rw [if_pos h]
   refine (tR (uC p.1 y) _ _).trans ?_
   by_cases q:y=x
   ·rw [if_pos q,if_pos (h.trans q.symm)]
   ·rw [if_neg q,if_neg (λz=>q (z.symm.trans h)),if_neg (λz=>q (z.symm.trans h))]
  ·rw [if_neg h]
   refine (tR (uC p.1 y) _ _).trans ?_
   by_cases q:p.1=y
   ·rw [if_pos q,if_pos q,if_neg λz=>h (q.trans z)]
   ·rw [if_neg q,if_neg q,ih]
theorem tS{α:Type}{x:Str}{k:α}{l:List (Str×α)}(h:ja l x=some k):(x,k)∈l:=by
 induction l with
|nil=>exact xn h
|cons p r ih=>
  refine xd (sq p.1 x) (λq=>?_) λq=>?_
  ·rw [<-jS.mp q,<-ai ((congrArg (λc=>cond c (some p.2) (ja r x)) q).symm.trans h)]
   exact bL ..
  ·exact bu _ (ih ((congrArg (λc=>cond c (some p.2) (ja r x)) q).symm.trans h))
variable{X:Em}{kvs:List (K×Value)}{l:List (K×PV)}{k:K}
theorem Jb(r:KR X kvs l):(uD l k=none/\valueAt kvs k=none)\/∃p v,uD l k=some p/\valueAt kvs k=some v/\VR X v p:=by
 induction l generalizing kvs with
|nil=>exact Bv r (.inl ⟨rfl,rfl⟩)
|cons a l ih=>
  refine vt r λv us rv rs=>?_
  unfold valueAt
  by_cases h:a.1=k
  ·rw [List.find?_cons_of_pos (by simpa using h)]
   exact .inr ⟨a.2,v,if_pos h,rfl,rv⟩
  ·rw [List.find?_cons_of_neg (by simpa using h),show uD (a::l) k=uD l k from if_neg h]
   exact ih rs
theorem ae9(r:KR X kvs l):(valueAt kvs k).isSome=(uD l k).isSome:=by
 rcases Jb (k:=k) r with z|⟨p,v,a,b,_⟩
 ·rw [z.1,z.2];rfl
 ·rw [a,b];rfl
theorem afa(r:KR X kvs l){p:PV}(h:uD l k=some p):∃v,valueAt kvs k=some v/\VR X v p:=by
 rcases Jb (k:=k) r with z|⟨q,v,a,b,c⟩
 ·exact xm (h.symm.trans z.1)
 ·exact ⟨v,b,ai (a.symm.trans h)▸c⟩
theorem tT(r:KR X kvs l):kvs.length=l.length:=by
 induction l generalizing kvs with
|nil=>exact Bv r rfl
|cons a l ih=>exact vt r λJ J J rs=>congrArg (·+1) (ih rs)
theorem afb(r:KR X kvs l){j:Nat}{p:K×PV}(h:l[j]?=some p):∃v,kvs[j]?=some (p.1,v):=by
 induction l generalizing kvs j with
|nil=>exact xn h
|cons a l ih=>
  refine vt r λv us J rs=>?_
  cases j with
 |zero=>exact ⟨v,by rw [<-ai h];rfl⟩
 |succ j=>exact ih rs h
theorem Jc{u:Value}{p:PV}(U:VR X u p)(r:KR X kvs l)(nd:(kvs.map (·.1)).Nodup):KR X (stored kvs k u) (ym l k p):=by
 induction l generalizing kvs with
|nil=>exact Bv r (.cons U .nil)
|cons a l ih=>
  revert nd
  refine vt r λv us rv rs nd=>?_
  rw [bT,bw] at nd
  unfold stored
  by_cases h:a.1=k
  ·rw [if_pos (by simp [h]),bT,if_pos h,show ym (a::l) k p=(a.1,p)::l from if_pos h,show (us.map λkv=>if kv.1=k then (kv.1,u) else kv)=us from (List.map_congr_left λkv hk=>if_neg λe=>nd.1 (aQ.mpr ⟨kv,hk,e.trans h.symm⟩)).trans (List.map_id us)]
   exact .cons U rs
  ·rw [show ym (a::l) k p=a::ym l k p from if_neg h]
   have:(if ((a.1,v)::us).any (λkv=>decide (kv.1=k)) then ((a.1,v)::us).map (λkv=>if kv.1=k then (kv.1,u) else kv) else ((a.1,v)::us)++[(k,u)])=(a.1,v)::stored us k u:=by
    unfold stored
    rw [List.any_cons,decide_eq_false h,Bool.false_or,bT,if_neg h]
    split<;>rfl
   rw [this]
   exact .cons rv (ih rs nd.2)
end
theorem ql(h:kB n=true):n<=65536:=b5 h
theorem uE{a b:Nat}(h:aY a b=true):a<b:=b5 h
theorem objs_size(P:Params):(objs P).length=1173:=by kernel_rfl
section
variable{w:World}{X Y:Em}{iY:AH}{s s₁ s':Shared}{E:Value->Shared->Prop}{i:Nat}{v:Value}
theorem Base.afc(B:Base w X η s.heap){b:Bool}{a:Addr}(h:X.ad r i b=some a):1173<=a:=dG λq=>xm ((B.st (aR (by rw [objs_size];exact q))).symm.trans (B.nf h))
theorem Base.vD(B:Base w X η s.heap){b:Bool}{a:Addr}(h:X.ad r i b=some a):(a == sysModules)=false:=beq_eq_false_iff_ne.mpr λe=>absurd (B.afc h) (by rw [e];decide)
theorem yo{K:Type}[DecidableEq K]{knd:KeyKind pw w K}{h:Heap}{a:Addr}(e:h.get? a=some ⟨.type "dict",none,.dict #[] n,#[]⟩):h.DictAt knd a [] n:=
 ⟨_,#[],e,⟨rfl,rfl,rfl⟩,rfl,λJ he=>by simp at he,Pairs.nil,dI⟩
@[elab_as_elim] theorem BI{P:Value->Prop}{o:AO}(B:Base w X η s.heap)(rv:VR X v (.ref r i))(g:η.get r i=some o)(k:∀a,X.ad r i false=some a->OR w X s.heap a (X.ad r i true) (X.ep r i) o->P (.ref a)):P v:=
 vR rv λa ea=>(B.ob g).elim λb x=>k a ea (ai (x.1.symm.trans ea)▸x.2)
@[elab_as_elim] theorem uF{P:Value->Prop}{l:List PV}(B:Base w X η s.heap)(rv:VR X v (.ref r i))(g:η.get r i=some (.list l))(k:∀a vs n,X.ad r i false=some a->s.heap.get? a=some (q8 vs n)->jr X vs l->P (.ref a)):P v:=
 BI B rv g λa ea x=>ay x λvs x=>x.elim λn x=>k a vs n ea x.1 x.2
@[elab_as_elim] theorem yp{P:Value->Prop}{l:List (Str×PV)}{u:Nat}(B:Base w X η s.heap)(rv:VR X v (.ref r i))(g:η.get r i=some (.sd l u))(k:∀a kvs e,X.ad r i false=some a->X.ep r i u=some e->s.heap.DictAt (strKind pw w) a kvs e->KR X kvs l->P (.ref a)):P v:=
 BI B rv g λa ea x=>ay x λkvs x=>x.elim λe x=>k a kvs e ea x.1 x.2.1 x.2.2
@[elab_as_elim] theorem idE{P:Value->Prop}{l:List (Int×PV)}(B:Base w X η s.heap)(rv:VR X v (.ref r i))(g:η.get r i=some (.rY l))(k:∀a kvs,X.ad r i false=some a->s.heap.DictOf (intKind pw w) a kvs->KR X kvs l->P (.ref a)):P v:=
 BI B rv g λa ea x=>ay x λkvs x=>k a kvs ea x.1 x.2
@[elab_as_elim] theorem BJ{P:Value->Prop}(B:Base w X η s.heap)(rv:VR X v (.ref r i))(g:η.get r i=some .jm)(k:∀a,X.ad r i false=some a->s.heap.get? a=some zB->P (.ref a)):P v:=BI B rv g λa ea x=>k a ea x
theorem oE{h:Heap}{a:Addr}{vs:List Value}(e:h.get? a=some (q8 vs n)):h.IsList a vs.toArray:=⟨_,e,rfl,n,rfl⟩
theorem vE{h:Heap}{a:Addr}{vs:List Value}(e:h.get? a=some (tC vs n)):h.IsTuple a vs.toArray:=⟨_,e,rfl,n,rfl⟩
theorem QO{o:AO}{e:Option Nat}{ob:Obj}{t:Nat}(B:Base w X η s.heap)(hf:ob.isFreed=false)(he:∀{c},e=some c->∃l u,o=.sd l u)(x:∀{Y:Em},X.Le Y->OR w Y (s.heap.push ob) s.heap.objs.size none (λv=>if v=0 then e else none) o):GE w X s (η.add o) (.ref η.reg η.iZ) (.ref s.heap.objs.size) { s with heap:=s.heap.push ob,toks:=t }:=
 made (s₁:=s) (d:=none) (.refl ..) B (λ{c} z=>z.elim (λz=>z▸⟨bJ (ak _),B.off (ak _),ob,bK _ hf⟩) xn) (λz=>xn z) (λJ h=>bS _ h) he (x B.zC)
theorem BK(B:Base w X η s.heap){vs:List Value}{l:List PV}{t:Nat}(r:jr X vs l):GE w X s (η.add (.list l)) (.ref η.reg η.iZ) (.ref s.heap.objs.size) { s with heap:=s.heap.push (q8 vs n),toks:=t }:=
 QO (e:=none) B rfl xn λle=>⟨vs,n,bK _ rfl,r.mono le⟩
theorem QR(B:Base w X η s.heap){t:Nat}:GE w X s (η.add .jm) (.ref η.reg η.iZ) (.ref s.heap.objs.size) { s with heap:=s.heap.push zB,toks:=t }:=
 QO (e:=none) B rfl xn λJ=>bK _ rfl
theorem afd(B:Base w X η s.heap){vs:List Value}{l:List PV}{t:Nat}(r:jr X vs l):GE w X s η (.tup l) (.ref s.heap.objs.size) { s with heap:=s.heap.push (tC vs n),toks:=t }:=
 frozen B _ rfl λle e=>.tup e (r.mono le)
theorem jg{α β:Type _}{P:Prop}{o:Option α}{f:α->Option β}{r:β}(h:o.bind f=some r)(k:∀a,o=some a->f a=some r->P):P:=(hU.mp h).elim λa z=>k a z.1 z.2
theorem jq{α β:Type _}{P:Prop}{o:Option α}{f:α->β}{r:β}(h:o.map f=some r)(k:∀a,o=some a->f a=r->P):P:=(eS.mp h).elim λa z=>k a z.1 z.2
variable{p:PV}{l:List PV}
theorem vH{i:Int}(h:gI p=some i):p=.int i:=by
 cases p<;>first|exact xn h|exact congrArg _ (ai h)
theorem vJ{x:Str}(h:gS p=some x):p=.str x:=by
 cases p<;>first|exact xn h|exact congrArg _ (ai h)
theorem BL(h:gT p=some l):p=.tup l:=by
 cases p<;>first|exact xn h|exact congrArg _ (ai h)
theorem uG{a:Nat×Nat}(h:gR p=some a):p=.ref a.1 a.2:=by
 cases p<;>first|exact xn h|exact congrArg (λa:Nat×Nat=>PV.ref a.1 a.2) (ai h)
theorem vK(h:η.lst r i=some l):η.get r i=some (.list l):=jg h λo g h=>by
 cases o<;>first|exact xn h|exact ai h▸g
theorem Ep{d:List (Str×PV)×Nat}(h:η.dct r i=some d):η.get r i=some (.sd d.1 d.2):=jg h λo g h=>by
 cases o<;>first|exact xn h|exact ai h▸g
theorem Er{d:Addr×List (Str×PV)}(h:η.ins r i=some d):η.get r i=some (.inst d.1 d.2):=jg h λo g h=>by
 cases o<;>first|exact xn h|exact ai h▸g
@[elab_as_elim] theorem tU{P:Value->Prop}{j:Int}(h:gI p=some j)(r:VR X v p)(k:∀t,P (.int j t)):P v:=vI (P:=P) (vH h▸r) k
@[elab_as_elim] theorem Es{P:Value->Prop}{x:Str}(h:gS p=some x)(r:VR X v p)(k:∀t,P (.str x t)):P v:=vS (P:=P) (vJ h▸r) k
@[elab_as_elim] theorem wQ{P:Value->Prop}(B:Base w X η s.heap)(h:nZ p η=some l)(rv:VR X v p)(k:∀a vs n,s.heap.get? a=some (q8 vs n)->jr X vs l->P (.ref a)):P v:=jg h λq e g=>uF (P:=P) B (uG e▸rv) (vK g) λa vs n J=>k a vs n
theorem wR{α:Type}{vs:List α}{p:α}(h:one vs=some p):vs=[p]:=by
 cases vs with
|nil=>exact xn h
|cons a vs=>cases vs with
 |nil=>exact congrArg (·::[]) (ai h)
 |cons _ _=>exact xn h
theorem QT{vs:List PV}{q:PV×PV}(h:two vs=some q):vs=[q.1,q.2]:=by
 cases vs with
|nil=>exact xn h
|cons a vs=>cases vs with
 |nil=>exact xn h
 |cons b vs=>cases vs with
  |nil=>exact congrArg (λq:PV×PV=>[q.1,q.2]) (ai h)
  |cons _ _=>exact xn h
@[elab_as_elim] theorem Jd{P:List Value->Prop}{vs:List Value}(h:jr X vs [p])(k:∀v,VR X v p->P [v]):P vs:=mK h λv J r rs=>oM rs (k v r)
@[elab_as_elim] theorem vs2{P:List Value->Prop}{vs:List Value}{q:PV}(h:jr X vs [p,q])(k:∀v u,VR X v p->VR X u q->P [v,u]):P vs:=mK h λv J r rs=>Jd rs λu=>k v u r
theorem afe{P:PV->Bool->Prop}{b:Bool}(h:mP p η=some b)(n:P .none false)(bb:∀b,P (.bool b) b)(ii:∀i,P (.int i) (i != 0))(ss:∀x,kB x.length=true->P (.str x) ((x.length:Int) != 0))(ll:∀r i l,η.get r i=some (.list l)->kB l.length=true->P (.ref r i) (!l.isEmpty)):P p b:=by
 induction p using PV.casesOn with
|none=>exact ai h▸n
|bool c=>exact ai h▸bb c
|int i=>exact ai h▸ii i
|str x=>
  have e:((x.length:Int) != 0)=!aj x.length 0:=by cases x.length<;>rfl
  exact xc h λc h=>ai h▸e▸ss x c
|ref r i=>exact jg h λl g h=>xc h λc h=>ai h▸ll r i l (vK g) c
|_=>exact xn h
theorem empty_eq{vs:List Value}(rs:jr X vs l):vs.toArray.isEmpty=l.isEmpty:=by
 cases l with
|nil=>exact oM rs rfl
|cons _ _=>exact mK rs λJ J J J=>rfl
theorem Je{b:Bool}{Q:Bool->Shared->Prop}(h:mP p η=some b)(B:Base w X η s.heap)(rv:VR X v p)(k:∀t,Q b { s with toks:=t }):wpAny (model pw w) A (truthy v) Q E s:=by
 refine afe (P:=λp b=>VR X v p->(∀t,Q b { s with toks:=t })->wpAny (model pw w) A (truthy v) Q E s) h ?_ ?_ ?_ ?_ ?_ rv k
 ·exact λrv k=>vN rv λJ J J=>k _
 ·exact λc rv k=>vB rv (wpAny_truthy_bool (k _))
 ·exact λi rv k=>vI rv λt=>PyProof.Rows.truthy_int (k _)
 ·exact λx c rv k=>vS rv λt=>PySem.P.truthy_str (λh=>by have:=ql c;omega) (k _)
 ·exact λr i l g c rv k=>uF B rv g λa vs n ea e rs=>wpAny_truthy_list (oE e) (by have:=ql c;have:=rs.length;rw [bM];omega) (empty_eq rs▸k _)
end
end
section
open PySem.SeqAt
theorem QW{f:PV->PV->Option Bool}{P:List PV->List PV->Bool->Prop}(n:P [] [] true)(c:∀a b e r q t,f a b=some e->zF f r q=some t->P r q t->P (a::r) (b::q) (e && t)){p:List PV}:∀{q:List PV} {b:Bool},zF f p q=some b->P p q b:=by
 induction p with
|nil=>
  intro q b h
  cases q with
 |nil=>exact ai h▸n
 |cons _ _=>exact xn h
|cons a r ih=>
  intro q b h
  cases q with
 |nil=>exact xn h
 |cons y q=>exact (hU.mp h).elim λe z=>(eS.mp z.2).elim λt y=>y.2▸c _ _ _ _ _ _ z.1 y.1 (ih y.1)
section
variable{w:World}{X:Em}{iY:AH}{s s':Shared}{v u:Value}{p q a:PV}{b c:Bool}{vs:List Value}{ps qs:List PV}
theorem QX{f:PV->PV->Option Bool}(hf:∀{a c e v u},f a c=some e->VR X v a->VR X u c->EqAt A s v u e)(h:zF f ps qs=some b):∀{vs us:List Value},jr X vs ps->jr X us qs->vs.length=us.length/\
  ∃e:Nat->Bool,(∀j (h1:j<vs.length) (h2:j<us.length),EqAt A s vs[j] us[j] (e j))/\(aX vs.length).all e=b:=by
 refine QW (P:=λps qs b=>∀{vs us:List Value},jr X vs ps->jr X us qs->vs.length=us.length/\∃e:Nat->Bool,(∀j (h1:j<vs.length) (h2:j<us.length),EqAt A s vs[j] us[j] (e j))/\(aX vs.length).all e=b) ?_ (λx y e r q t h J ih vs us rs ts=>?_) h
 ·exact λrs ts=>oM rs (oM ts ⟨rfl,λJ=>true,λj h1 J=>absurd h1 (dW j),rfl⟩)
 ·refine mK rs λv vs rv rs=>mK ts λu us ru ts=>?_
  refine jB (ih rs ts) λhl h2=>⟨congrArg Nat.succ hl,h2.elim λg z=>⟨λj=>Nat.casesOn j e g,λj h1 h2=>?_,?_⟩⟩
  ·cases j with
  |zero=>exact hf h rv ru
  |succ j=>exact z.1 j (cj h1) (cj h2)
  ·rw [aZ,List.range_succ_eq_map,List.all_cons,List.all_map]
   exact congrArg (e && ·) z.2
theorem QY(h:IK p q=some b):∃x y,p=.str x/\q=.str y/\sq x y=b:=jg h λx e h=>jq h λy e' h=>⟨x,y,vJ e,vJ e',h⟩
theorem afg(h:IK p q=some b)(r:VR X v p)(t:VR X u q):EqAt A s v u b:=by
 obtain ⟨x,y,rfl,rfl,rfl⟩:=QY h
 rw [IZ]
 exact vS r λJ=>vS t λJ=>EqAt.str_str x _ y _
theorem QZ(xs:List Str):∀{ys:List Str} {vs:List Value},jr X vs (xs.map .str)->jr X vs (ys.map .str)->xs=ys:=by
 induction xs with
|nil=>
  intro ys vs a c
  cases ys with
 |nil=>rfl
 |cons y ys=>exact mK (R:=λvs=>jr X vs []->[]=y::ys) c (λJ J J J a=>nomatch a) a
|cons x xs ih=>
  intro ys vs a c
  revert c
  refine mK a λv vs r rs c=>?_
  cases ys with
 |nil=>exact nomatch c
 |cons y ys=>
   refine D0 c λJ J e r' BP=>?_
   obtain ⟨rfl,rfl⟩:=List.cons.inj e
   rw [ih rs BP]
   refine oK r λJ e=>oK r' λJ e'=>?_
   exact congrArg (·::ys) (Value.str.inj (e.symm.trans e')).1
theorem Q0(h:zG ps qs=some b):∃xs ys:List Str,ps=xs.map .str/\qs=ys.map .str/\(xs=ys->b=true):=
 QW (P:=λps qs b=>∃xs ys:List Str,ps=xs.map .str/\qs=ys.map .str/\(xs=ys->b=true)) ⟨[],[],rfl,rfl,λJ=>rfl⟩ (λJ J J J J t h J ih=>by
  obtain ⟨x,y,rfl,rfl,rfl⟩:=QY h
  obtain ⟨xs,ys,rfl,rfl,k⟩:=ih
  exact ⟨x::xs,y::ys,rfl,rfl,λe=>by rw [k (List.cons.inj e).2,dY];exact jS.mpr (List.cons.inj e).1⟩) h
theorem Q5{m:Nat}{o:Option Obj}(h:o=some (tC vs n))(k:o=some (tC us m)):us=vs:=by
 injection h.symm.trans k with e;injection e with _ _ e _;injection e with e;exact (congrArg fT e).symm
theorem Q6{x y:List PV}(h:zG x y=some b)(r:VR X v (.tup x))(t:VR X u (.tup y))(B:Base w X η s.heap)(hu:A.units<cLine):RcAt A s v u b:=by
 refine vU r λa vs n e1 r1=>vU t λc us m e2 r2=>?_
 refine jB (QX (A:=A.in1) (s:=s) (λh=>afg h) h r1 r2) λhl z=>z.elim λe z=>?_
 have:=RcAt.tuples (e:=e) (vE (B.fz e1)) (vE (B.fz e2)) hu z.1
 rw [bM,bM,<-hl,Nat.min_self,beq_self_eq_true,dY,z.2] at this
 exact this
theorem Q7{P:PV->PV->Bool->Prop}(h:oB p q=some b)(nn:P .none .none true)(ns:∀x,P .none (.str x) false)(sn:∀x,P (.str x) .none false)(nb:∀x,P .none (.bool x) false)(bn:∀x,P (.bool x) .none false)(bb:∀x y,P (.bool x) (.bool y) (x == y))(ii:∀x y,P (.int x) (.int y) (decide (x=y)))(ss:∀x y,P (.str x) (.str y) (x == y))(tt:∀x y b,zG x y=some b->P (.tup x) (.tup y) b):P p q b:=by
 induction p using PV.casesOn with
|none=>induction q using PV.casesOn with
 |none=>exact ai h▸nn
 |str x=>exact ai h▸ns x
 |bool x=>exact ai h▸nb x
 |_=>exact xn h
|bool x=>induction q using PV.casesOn with
 |none=>exact ai h▸bn x
 |bool y=>exact ai h▸bb x y
 |_=>exact xn h
|int x=>exact jq h λy e h=>vH e▸h▸ii x y
|str x=>induction q using PV.casesOn with
 |none=>exact ai h▸sn x
 |str y=>exact ai h▸IZ x y▸ss x y
 |_=>exact xn h
|tup x=>exact jg h λy e h=>BL e▸tt x y b h
|_=>exact xn h
theorem Jf{P:Value->Value->Bool->Prop}(h:oB p q=some b)(r:VR X v p)(t:VR X u q)(nn:P .none .none true)(ns:∀x t,P .none (.str x t) false)(sn:∀x t,P (.str x t) .none false)(nb:∀x,P .none (.bool x) false)(bn:∀x,P (.bool x) .none false)(bb:∀x y,P (.bool x) (.bool y) (x == y))(ii:∀x t y u,P (.int x t) (.int y u) (decide (x=y)))(ss:∀x t y u,P (.str x t) (.str y u) (x == y))(tt:∀x y,zE p=true->zG x y=some b->VR X v (.tup x)->VR X u (.tup y)->P v u b):P v u b:=by
 refine Q7 (P:=λp q b=>VR X v p->VR X u q->(∀x y,zE p=true->zG x y=some b->VR X v (.tup x)->VR X u (.tup y)->P v u b)->P v u b) h ?_ ?_ ?_ ?_ ?_ ?_ ?_ ?_ ?_ r t tt
 ·exact λr t J=>vN r (vN t nn)
 ·exact λx r t J=>vN r (vS t (ns x))
 ·exact λx r t J=>vN t (vS r (sn x))
 ·exact λx r t J=>vN r (vB t (nb x))
 ·exact λx r t J=>vN t (vB r (bn x))
 ·exact λx y r t J=>vB r (vB t (bb x y))
 ·exact λx y r t J=>vI r λi=>vI t (ii x i y)
 ·exact λx y r t J=>vS r λi=>vS t (ss x i y)
 ·exact λx y b e r t k=>k x y rfl e r t
theorem Q8(h:oB p q=some b)(r:VR X v p)(t:VR X u q)(B:Base w X η s.heap)(hu:A.units<cLine):EqAt A s v u b:=
 Jf (P:=EqAt A s) h r t (.same _) (λJ=>EqAt.none_str _) (λJ=>EqAt.str_none _) EqAt.none_bool EqAt.bool_none EqAt.bool_bool EqAt.int_int EqAt.str_str λx y J h r t=>by
  have k:=Q6 h r t B hu
  revert k
  refine vU r λa vs n e1 r1=>vU t λc us m e2 r2 k=>?_
  by_cases Jg:a=c
  ·obtain ⟨xs,ys,rfl,rfl,k⟩:=Q0 h
   rw [k (QZ xs r1 (Q5 (Jg▸e1) e2▸r2)),Jg]
   exact .same _
  ·exact .of_refs Jg k
theorem afh(h:oB p q=some b)(r:VR X v p)(t:VR X u q)(B:Base w X η s.heap)(hu:A.units<cLine):RcAt A s v u b:=
 Jf (P:=RcAt A s) h r t RcAt.none_none (λJ=>RcAt.none_str _) (λJ=>RcAt.str_none _) RcAt.none_bool RcAt.bool_none RcAt.bool_bool RcAt.int_int RcAt.str_str λx y J h r t=>Q6 h r t B hu
theorem afi(h:oB p q=some b)(hp:zE p=false)(r:VR X v p)(t:VR X u q):RcNeAt A s v u (!b):=
 Jf (P:=λv u b=>RcNeAt A s v u (!b)) h r t RcNeAt.none_none (λJ=>RcNeAt.none_str _) (λJ=>RcNeAt.str_none _) RcNeAt.none_bool RcNeAt.bool_none RcNeAt.bool_bool RcNeAt.int_int RcNeAt.str_str λx y e J J J=>xg (e.symm.trans hp)
noncomputable def Q9:Value->Option PV
|.none=>some .none
|.bool b=>some (.bool b)
|.int i _=>some (.int i)
|.str s _=>some (.str s)
|_=>none
theorem Jh(r:VR X v p)(h:oB p a=some b):Q9 v=some p\/∃(x:List Str) (l:Addr),p=.tup (x.map .str)/\v=.ref l:=
 Q7 (P:=λp J J=>VR X v p->Q9 v=some p\/∃(x:List Str) (l:Addr),p=.tup (x.map .str)/\v=.ref l) h (λr=>.inl (vN r rfl)) (λJ r=>.inl (vN r rfl)) (λJ r=>.inl (vS r λJ=>rfl)) (λJ r=>.inl (vN r rfl)) (λJ r=>.inl (vB r rfl)) (λJ J r=>.inl (vB r rfl)) (λJ J r=>.inl (vI r λJ=>rfl)) (λJ J r=>.inl (vS r λJ=>rfl))
  (λJ J J h r=>(Q0 h).elim λx z=>z.elim λJ z=>vU r λl J J J J=>.inr ⟨x,l,congrArg _ z.1,rfl⟩) r
theorem afj(r:VR X v p)(r':VR X v q)(h:oB p a=some b)(h':oB q a=some c):b=c:=by
 suffices e:p=q from ai ((e▸h).symm.trans h')
 rcases Jh r h with e|⟨x,l,rfl,rfl⟩
 ·rcases Jh r' h' with e'|⟨y,l,rfl,rfl⟩
  ·exact ai (e.symm.trans e')
  ·exact xn e
 ·rcases Jh r' h' with e'|⟨y,m,rfl,e'⟩
  ·exact xn e'
  ·exact Qc r λa1 vs n e1 f1 r1=>Qc r' λa2 us m e2 f2 r2=>congrArg (λx:List Str=>PV.tup (x.map .str)) (QZ x r1 (Q5 f1 (cJ (e1.symm.trans e2)▸f2)▸r2))
def yq(X:Em)(a:PV)(y:Value):Bool:=@decide (∃p,VR X y p/\oB p a=some true) (fU _)
theorem Et(r:VR X v p)(h:oB p a=some b):yq X a v=b:=by
 cases b
 ·exact @decide_eq_false _ (fU _) λz=>z.elim λq z=>xg (afj z.1 r z.2 h)
 ·exact @decide_eq_true _ (fU _) ⟨p,r,h⟩
theorem Ra{l:List PV}:∀{b:Bool},rZ a l=some b->∀p∈l,∃c,oB p a=some c:=by
 induction l with
|nil=>exact λJ p hp=>absurd hp aU
|cons q l ih=>exact λh p hp=>jg h λe h1 h=>jq h λJ h2 J=>(aB.mp hp).elim (λz=>⟨e,z▸h1⟩) (ih h2 p)
theorem afk{l:List PV}:∀{b:Bool} {vs:List Value},rZ a l=some b->jr X vs l->vs.any (yq X a)=b:=by
 induction l with
|nil=>exact λh rs=>oM rs (ai h)
|cons q l ih=>exact λh rs=>jg h λe h1 h=>jq h λJ h2 h=>mK rs λv vs r rs=>h▸ih h2 rs▸Et r h1▸List.any_cons
theorem jr.mem{l:List PV}:∀{vs:List Value},jr X vs l->∀{u:Value},u∈vs->∃p,p∈l/\VR X u p:=by
 induction l with
|nil=>exact λrs=>oM rs λh=>absurd h aU
|cons p l ih=>exact λrs=>mK rs λv vs r rs h=>(aB.mp h).elim (λz=>⟨p,bL ..,z▸r⟩) λz=>(ih rs z).elim λq z=>⟨q,bu _ z.1,z.2⟩
theorem Rb{l:List PV}(hd:∀p∈l,∃c,oB p a=some c)(rs:jr X vs l)(r:VR X v a)(B:Base w X η s.heap)(hu:A.units<cLine)(y:Value)(hy:y∈vs.toArray):EqAt A s y v (yq X a y):=
 (rs.mem (List.mem_toArray.mp hy)).elim λp z=>(hd p z.1).elim λc h=>Et z.2 h▸Q8 h z.2 r B hu
theorem Rd(h:uB p q η=some b)(r:VR X v p)(t:VR X u q)(B:Base w X η s.heap)(hu:A.units+1<cLine):RcAt A s v u b/\(zE p=false->RcNeAt A s v u (!b)):=by
 have BQ:A.units<cLine:=Nat.lt_of_succ_lt hu
 unfold uB at h
 generalize gR p=o at h
 cases o with
|none=>exact ⟨afh h r t B BQ,λk=>afi h k r t⟩
|some _=>
  refine jg h λl g1 h=>jg h λl' g2 h=>wQ B g1 r λa vs n e1 rs=>wQ B g2 t λc us m e2 ts=>xd (aj l.length l'.length) (λc=>?_) λc=>?_
  ·rw [c] at h
   refine xd (sameAt p q) (λc=>xn ((congrArg (λc=>cond c none (By l l')) c).symm.trans h)) λc=>?_
   have h:By l l'=some b:=(congrArg (λc=>cond c none (By l l')) c).symm.trans h
   exact jB (QX (A:=A.in1) (s:=s) (λh r t=>Q8 h r t B hu) h rs ts) λhl z=>z.elim λe z=>z.2▸⟨RcAt.lists (oE e1) (oE e2) hl BQ z.1,λJ=>RcNeAt.lists (oE e1) (oE e2) hl BQ z.1⟩
  ·rw [c] at h
   have hz:(vs.toArray.size != us.toArray.size)=true:=bne_iff_ne.mpr λe=>gY c (rs.length.symm.trans (e.trans ts.length))
   exact ai h▸⟨RcAt.lists_lengths (oE e1) (oE e2) hz BQ,λJ=>RcNeAt.lists_lengths (oE e1) (oE e2) hz BQ⟩
variable{E:Value->Shared->Prop}{Q:Value->Shared->Prop}
theorem afl{P:PV->PV->Bool->Prop}(h:se p q η=some b)(tt:∀p l b,rZ p l=some b->P p (.tup l) b)(ll:∀p r i l b,η.get r i=some (.list l)->rZ p l=some b->P p (.ref r i) b)(sd:∀x r i l u,η.get r i=some (.sd l u)->P (.str x) (.ref r i) (ja l x).isSome)(id:∀x r i l,η.get r i=some (.rY l)->P (.int x) (.ref r i) (ri l x).isSome)
  (ds:∀x r i,η.get r i=some .jm->P (.str x) (.ref r i) false) (di:∀x r i,η.get r i=some .jm->P (.int x) (.ref r i) false):P p q b:=by
 unfold se at h
 refine xo (gT q) (λe=>?_) λl e=>?_
 ·rw [e] at h
  refine jg h λa ea h=>jg h λo g h=>uG ea▸?_
  induction o using AO.casesOn with
 |list l=>exact ll _ _ _ _ _ g h
 |sd l u=>exact jq h λx e h=>vJ e▸h▸sd x _ _ l u g
 |rY l=>exact jq h λx e h=>vH e▸h▸id x _ _ l g
 |jm=>exact xc h λc h=>ai h▸((bC _ _).mp c).elim (λc=>(cz.mp c).elim λx e=>vJ e▸ds x _ _ g) λc=>(cz.mp c).elim λx e=>vH e▸di x _ _ g
 |inst _ _=>exact xn h
 ·rw [e] at h
  exact BL e▸tt _ _ _ h
theorem Rf(h:se p q η=some b)(r:VR X v p)(t:VR X u q)(B:Base w X η s.heap)(hu:A.units+1<cLine)(n:Bool)(k:∀t,Q (.bool (b != n)) { s with toks:=t }):wpAny (model pw w) A (compareOp (cond n .NotIn .In) v u) Q E s:=by
 have seq:∀{a vs l p b},VR X v p->s.heap.IsTuple a vs\/s.heap.IsList a vs->rZ p l=some b->jr X vs.toList l->(∀t,Q (.bool (b != n)) { s with toks:=t })->wpAny (model pw w) A (compareOp (cond n .NotIn .In) v (.ref a)) Q E s:=λ{a vs l p b} r L h rs k=>by
  have he:=Rb (A:=A.in1) (Ra h) rs r B hu
  have k:=k s.toks
  rw [<-(Array.any_toList).symm.trans (afk h rs)] at k
  cases n
  ·rw [fV] at k
   exact L.elim (λL=>in_tupleAt _ L he k) λL=>in_listAt _ L he k
  ·rw [fX] at k
   exact L.elim (λL=>notIn_tupleAt _ L he k) λL=>notIn_listAt _ L he k
 have dict:∀{K:Type} [DecidableEq K] {knd:KeyKind pw w K} {kvs:List (K×Value)} {l:List (K×PV)} {x:K} {a r i:_} {b:Bool},X.ad r i false=some a->s.heap.DictOf knd a kvs->KR X kvs l->knd.is x v=true->(uD l x).isSome=b->(∀t,Q (.bool (b != n)) { s with toks:=t })->wpAny (model pw w) A (compareOp (cond n .NotIn .In) v (.ref a)) Q E s:=λea D R hk hb k=>by
  have k:=k (s.toks+1)
  rw [<-(ae9 R).trans hb] at k
  cases n
  ·rw [fV] at k
   exact wpAny_in_of hk (B.vD ea) D.mapOf k
  ·rw [fX] at k
   exact wpAny_notIn_of hk (B.vD ea) D.mapOf k
 refine afl (P:=λp q b=>VR X v p->VR X u q->(∀t,Q (.bool (b != n)) { s with toks:=t })->wpAny (model pw w) A (compareOp (cond n .NotIn .In) v u) Q E s) h ?_ ?_ ?_ ?_ ?_ ?_ r t k
 ·exact λp l b h r t k=>vU t λa vs n e rs=>seq r (.inl (vE (B.fz e))) h rs k
 ·exact λp r i l b g h rv t k=>uF B t g λa vs n J e rs=>seq rv (.inr (oE e)) h rs k
 ·exact λx r i l u g rv t k=>yp B t g λa kvs e ea J D R=>dict ea D.dictOf R (vS rv λt=>strKind_is pw w x t) (Ja l x▸rfl) k
 ·exact λx r i l g rv t k=>idE B t g λa kvs ea D R=>dict ea D R (vI rv λt=>intKind_is pw w x t) (ae7 l x▸rfl) k
 ·exact λx r i g rv t k=>BJ B t g λa ea e=>dict ea (yo (knd:=strKind pw w) e).dictOf .nil (vS rv λt=>strKind_is pw w x t) rfl k
 ·exact λx r i g rv t k=>BJ B t g λa ea e=>dict ea (yo (knd:=intKind pw w) e).dictOf .nil (vI rv λt=>intKind_is pw w x t) rfl k
theorem Rg(r:VR X v p):(v == .none)=lW p:=by
 induction p using PV.casesOn with
|none=>exact vN r rfl
|bool _=>exact vB r rfl
|int _=>exact vI r λJ=>rfl
|str _=>exact vS r λJ=>rfl
|tup _=>exact vU r λJ J J J J=>rfl
|ref _ _=>exact vR r λJ J=>rfl
|st y=>
  refine vT r λh=>?_
  cases y<;>first|rfl|exact xf h
|fl _=>exact vF r λJ J J J J J J J=>rfl
|mr _ _=>exact vG r λJ J J J=>rfl
theorem Eu(h:lW p=true):p=.none:=by
 cases p<;>first|rfl|exact xf h
theorem Rh{op:CmpOp}(h:mQ op p q η=some b)(r:VR X v p)(t:VR X u q)(B:Base w X η s.heap)(hu:A.units+1<cLine)(k:∀t,Q (.bool b) { s with toks:=t }):wpAny (model pw w) A (compareOp op v u) Q E s:=by
 induction op using CmpOp.casesOn with
|Is=>exact xc h λc h=>vN (X:=X) (v:=u) (Eu c▸t) (is_none (Rg r▸ai h▸k _))
|IsNot=>exact xc h λc h=>vN (X:=X) (v:=u) (Eu c▸t) (isNot_none (Rg r▸ai h▸k _))
|Eq=>exact (Rd h r t B hu).1 pw w _ _ (k _)
|NotEq=>
  refine xd (zE p) (λc=>xn ((congrArg (λc=>cond c none ((uB p q η).map (!·))) c).symm.trans h)) λc=>jq ((congrArg (λc=>cond c none ((uB p q η).map (!·))) c).symm.trans h) λd e h=>?_
  exact (Rd e r t B hu).2 c pw w _ _ (h▸k _)
|In=>exact Rf h r t B hu false (by rw [fV];exact k)
|NotIn=>exact jq h λd e h=>Rf e r t B hu true (by rw [fX,h];exact k)
|Lt=>exact jg h λx e h=>jq h λy e' (h:decide (x<y)=b)=>tU e r λJ=>tU e' t λJ=>PyProof.Rows.lt_int (h▸k _)
|Gt=>exact jg h λx e h=>jq h λy e' (h:decide (y<x)=b)=>tU e r λJ=>tU e' t λJ=>PyProof.Rows.gt_int (h▸k _)
|GtE=>exact jg h λx e h=>jq h λy e' (h:decide (y<=x)=b)=>tU e r λJ=>tU e' t λJ=>PyProof.Rows.ge_int (h▸k _)
|_=>exact xn h
end
end
section
open PySem.SeqAt
section
variable{w:World}{X:Em}{iY:AH}{s s':Shared}{v u:Value}{p q o:PV}{T:Tab}{E:Value->Shared->Prop}{Q:Value->Shared->Prop}{i:Nat}
theorem jr.replicate{vs:List Value}{l:List PV}(r:jr X vs l):∀k:Nat,jr X (bq k vs).flatten (bq k l).flatten
|0=>.nil
|k+1=>r.append (jr.replicate r k)
theorem Ri(items:List Value):∀(k:Nat) (acc:List Value),dZ (λ(x1 x2:Array Value)=>x1++x2) acc.toArray (bq k items.toArray)=(acc++(bq k items).flatten).toArray
|0,acc=>(congrArg cK (bU acc)).symm
|k+1,acc=>by
  rw [List.replicate_succ,List.foldl_cons,eT,Ri items k,bQ]
  rfl
theorem Rj{y:Int}(h:y.natAbs<1073741824):ic y<=64:=by
 unfold ic
 by_cases q:(y == 0)=true
 ·rw [if_pos q];decide
 ·rw [if_neg q]
  exact aap ((Nat.log2_lt λe=>q (beq_iff_eq.mpr (Int.natAbs_eq_zero.mp e))).mpr h)
theorem afn{op:Operator}{x y z:Int}{t t':Tok}(h:IQ op x y=some z)(k:∀Rk n,Q (.int z Rk) { s with toks:=n }):wpAny (model pw w) A (binaryOp op (.int x t) (.int y t')) Q E s:=by
 induction op using Operator.casesOn with
|Add=>exact PyProof.Rows.add_int (ai h▸k _ _)
|Mult=>exact xc h λc h=>PyProof.Rows.mul_int (ai h▸k _ _) (.of_right (Rj (uE c)))
|FloorDiv=>exact xc h λc h=>xb c λc1 c2=>PyProof.Rows.floordiv_int (Int.ne_of_gt (of_decide_eq_true c1)) (ai h▸k _ _) (.inl (PyProof.noPylong_small (uE c2)))
|Mod=>exact xc h λc h=>PyProof.Rows.mod_int (Int.ne_of_gt (of_decide_eq_true c)) (ai h▸k _ _)
|Pow=>
  refine xc h λc h=>xb c λc c3=>xb c λc1 c2=>?_
  obtain rfl:=of_decide_eq_true c1
  refine PyProof.Rows.pow_int (of_decide_eq_true c2) (dD (Int.mul_le_mul ?_ (of_decide_eq_true c3) (of_decide_eq_true c2) (by decide:(0:Int)<=64)) (dc rfl)) (ai h▸k _ _)
  exact_mod_cast Rj (dc rfl)
|_=>exact xn h
theorem Ji{op:Operator}(h:Ei op=true):op=.Add:=by
 cases op<;>first|rfl|exact xf h
theorem afo{op:Operator}(h:Qy op=true):op=.Mult:=by
 cases op<;>first|rfl|exact xf h
theorem afp{k:Int}{a:Addr}{vs:List Value}{t:Tok}(e:s.heap.get? a=some (q8 vs n))(h0:0<=k)(h3:k<=3)(hz:3*vs.length<=65536)(h:∀t,Q (.ref s.heap.objs.size) { s with heap:=s.heap.push (q8 (bq k.toNat vs).flatten 0),toks:=t }):wpAny (model pw w) A (binaryOp .Mult (.ref a) (.int k t)) Q E s:=by
 have qL:vs.toArray.size*k.toNat<=2 ^ 24:=by
  rw [bM]
  exact ah (bE _ (show k.toNat<=3 from by exact aaq h3)) (by rw [Nat.mul_comm];exact ah hz (dc rfl))
 have hf:dZ (λ(x1 x2:Array Value)=>x1++x2) #[] (bq (if vs.toArray.isEmpty=true then 0 else k.toNat) vs.toArray)=(bq k.toNat vs).flatten.toArray:=by
  cases vs with
 |nil=>simp
 |cons a b=>exact Ri (a::b) k.toNat []
 refine wpAny_binaryOp_repeat_ref (T:="list") (U:="int") (dc rfl) ⟨_,e,rfl⟩ (λs'=>typeIs_int s' _ _) noFill_list_mul F.fills_int_mul F.slot_int_rmul repeat_list F.slot_int_index.lookup
  (call_meets F.slot_int_rmul (typeIs_int s _ _) F.entry_int_rmul (F.args_int_rmul_2 _ _) (int___rmul___int_list k t a vs.toArray n)
   ⟨e,rfl,⟨_,e,rfl⟩,call_meets F.slot_list_mul ⟨_,e,rfl⟩ F.entry_list_mul (F.args_list_mul_2 _ _)
    (AutoListH.list___mul___list_int_3 a vs.toArray n k t (by simp [ie];exact aar h0 h3) (by omega) (by simp [Builtin.List.listTooLong,sizeLine] at qL ⊢;assumption))
    ⟨e,?_⟩⟩)
 rw [hf]
 exact h _
theorem afq{op:Operator}{x:PV×AH}(h:qK op p q η=some x)(rv:VR X v p)(t:VR X u q)(B:Base w X η s.heap)(k:∀{v s'},GE w X s x.2 x.1 v s'->Q v s'):wpAny (model pw w) A (binaryOp op v u) Q E s:=by
 induction p using PV.casesOn with
|int a=>exact jg h λb e h=>jq h λz e' h=>vI rv λi=>tU e t λj=>afn e' λRk n=>k (h▸.tok B (.int _ _))
|str a=>exact jg h λb e h=>xc h λc h=>xb c λc1 c2=>vS rv λi=>Es e t λj=>Ji c1▸PySem.SB.add (λt' n=>k (ai h▸.tok B (.str _ _))) (ah (ql c2) (dc rfl))
|ref r i=>
  refine jg h λl e h=>uF B rv (vK e) λa vs n J e1 rs=>xo (gI q) (λg=>?_) λj g=>?_
  ·rw [g] at h
   refine jg h λl' e' h=>xc h λc h=>xb c λc1 c2=>wQ B e' t λa2 us m e2 ts=>?_
   refine Ji c1▸PySem.P.add_list e1 e2 ?_ ?_
   ·rw [eT]
    exact k (ai h▸BK B (rs.append ts))
   ·rw [bM,bM,rs.length,ts.length]
    exact ah (ql c2) (dc rfl)
  ·rw [g] at h
   refine xc h λc h=>xb c λc c4=>xb c λc c3=>xb c λc1 c2=>tU g t λtk=>?_
   exact afo c1▸afp e1 (of_decide_eq_true c2) (of_decide_eq_true c3) (by rw [rs.length];exact ql c4) λt=>k (ai h▸BK B (rs.replicate _))
|_=>exact xn h
def Kf(P:Params):Frag:=(objs P).zipIdx.map λp=>(p.2,p.1)
theorem Rl{o:Obj}:∀(l:List Obj) (k a:Nat),((l.zipIdx k).map λp=>(p.2,p.1)).lookup a=some o->k<=a/\l[a - k]?=some o
|[],k,a,h=>xn h
|x::l,k,a,h=>by
  rw [List.zipIdx_cons,bT,bB] at h
  refine xd (a == k) (λq=>?_) λq=>?_
  ·rw [q] at h
   rw [eq_of_beq q,fY]
   exact ⟨ak _,h⟩
  ·rw [q] at h
   refine jB (Rl l (k+1) a h) λh1 h2=>⟨cw h1,?_⟩
   rw [show a - k=(a - (k+1))+1 from by exact aeg h1]
   exact h2
theorem Base.kf(B:Base w X η s.heap):(Kf w.params).In s.heap:=λa o h=>B.fz (B.st (Rl _ 0 a h).2)
structure afr(P:Params)(c:Addr)(name:Str):Prop where
 get:plainGet (Kf P) c name=true
 dict:hasDictIn (Kf P) c=true
 find:findIn (Kf P) (.ref c) name=some none
 set:findIn (Kf P) (.ref c) "__setattr__"=some (some (.builtin "object.__setattr__"))
 over:plainOver (Kf P) c=true
def Ew(P:Params)(T:Tab):Prop:=∀c ns,jv T.fields c=some ns->∀a,oN ns a=true->afr P c a
theorem afs{o:Obj}{es:Array DictEntry}{ep:Nat}{m:Str->Option Value}(hd:o.data=.dict es ep)(hk:StrKeys es)(hf:∀name,nsFind es name=m name)(name:Str):lookIn name o=some (m name):=by
 unfold lookIn
 rw [hd,<-hf]
 dsimp only
 have:nsFind es name=(es.toList.find? (·.key.isStr name)).map (·.val):=by
  unfold nsFind findBy
  rw [<-Array.find?_toList]
 rw [this]
 cases es.toList.find? (·.key.isStr name) with
|some e=>rfl
|none=>
  have hn:es.toList.any (·.refKey)=false:=by
   rw [fZ]
   intro e he
   obtain ⟨n,t,aft⟩:=hk e (eU.mp he)
   simp [ig,aft]
  simp [hn]
@[elab_as_elim] theorem Ex{P:Value->Prop}{c:Addr}(B:Base w X η s.heap)(rv:VR X v (.ref r i))(g:η.get r i=some (.inst c fs))
  (k:∀a dx m o,X.ad r i false=some a->X.ad r i true=some dx->PySem.W.InstAt s.heap a (IE c dx) c (some o)->(∀name,lookIn name o=some (m name))->q9 s.heap dx m fs.length->NR X m fs->P (.ref a)):P v:=
 BI B rv g λa ea x=>ay x λdx x=>x.elim λm x=>x.2.2.1.elim λo z=>z.elim λes z=>z.elim λep z=>k a dx m o ea x.1 ⟨x.2.1,rfl,rfl,z.1⟩ (afs z.2.1 z.2.2.1 z.2.2.2.1) x.2.2.1 x.2.2.2
theorem afu(r:VR X v p)(h:oh p=true):handedIn v=true:=by
 induction p using PV.casesOn with
|none=>exact vN r rfl
|bool _=>exact vB r rfl
|int _=>exact vI r λJ=>rfl
|str _=>exact vS r λJ=>rfl
|tup _=>exact vU r λJ J J J J=>rfl
|ref _ _=>exact vR r λJ J=>rfl
|st y=>
  refine vT r λJ=>?_
  cases y<;>first|rfl|exact xf h
|fl _=>exact vF r λJ J J J J J J J=>rfl
|mr _ _=>exact vG r λJ J J J=>rfl
theorem NR.has{m:Str->Option Value}{x:Str}(h:NR X m fs)(g:ja fs x=some p):∃v,m x=some v/\VR X v p:=by
 rw [wO] at g
 exact (h x).elim (λz=>xm (g.symm.trans z.1)) λz=>z.elim λq z=>z.elim λv z=>⟨v,z.2.1,ai (z.1.symm.trans g)▸z.2.2⟩
theorem NR.no{m:Str->Option Value}{x:Str}(h:NR X m fs)(g:ja fs x=none):m x=none:=by
 rw [wO] at g
 exact (h x).elim (λz=>z.2) λz=>z.elim λq z=>z.elim λv z=>xm (z.1.symm.trans g)
theorem afv{a:Str}{G:Prop}(h:jV T o a η=some p)(k:∀{r i c fs ns},o=.ref r i->η.get r i=some (.inst c fs)->jv T.fields c=some ns->oN ns a=true->ja fs a=some p->oh p=true->G):G:=
 jg h λJ e h=>jg h λJ e2 h=>jg h λJ e3 h=>xc h λc1 h=>jg h λJ hq h=>xc h λc2 h=>k (uG e) (Er e2) e3 c1 (hq.trans h) (ai h▸c2)
theorem Rm(FO:Ew w.params T){a:Str}{expr:Bool}(h:jV T o a η=some p)(rv:VR X v o)(B:Base w X η s.heap)(k:∀{v} t,VR X v p->Q v { s with toks:=t }):wpAny (model pw w) A (getAttr v a expr) Q E s:=
 afv h λe g e3 c1 hq c2=>Ex (v:=v) B (e▸rv) g λad dx m ob ea ed I lk hn hr=>(hr.has hq).elim λu z=>
  have F:=FO _ _ e3 _ c1
  get_value B.kf I (plainGet_of F.get).1 (findObj_own F.dict F.find rfl ((lk a).trans (congrArg some z.1))) (afu z.2 c2) (k _ z.2)
theorem afw(fs:List (Str×PV))(x y:Str)(p:PV):(jz fs x p).lookup y=if y=x then some p else fs.lookup y:=by
 rw [<-wO,vC,wO]
theorem Ey(fs:List (Str×PV))(x:Str)(p:PV):(jz fs x p).length=if (ja fs x).isSome then fs.length else fs.length+1:=by
 induction fs with
|nil=>rfl
|cons q r ih=>
  show (cond (sq q.1 x) ((q.1,p)::r) (q::jz r x p)).length=if (cond (sq q.1 x) (some q.2) (ja r x)).isSome then _ else _
  cases sq q.1 x with
 |true=>rfl
 |false=>
   show (jz r x p).length+1=if (ja r x).isSome then r.length+1 else r.length+1+1
   rw [ih]
   cases (ja r x).isSome<;>rfl
theorem afx{h:Heap}{o:Obj}{es:Array DictEntry}{ep k t:Nat}{m:Str->Option Value}(D:h.get? dx=some o)(hd:o.data=.dict es ep)(hk:StrKeys es)(hf:∀name,nsFind es name=m name)(qL:es.size<=k){hash:Int}:
  q9 (h.update dx (Obj.putName name hash (.str name t) v)) dx (λy=>if y=name then some v else m y) (if (m name).isSome then k else k+1):=by
 obtain ⟨c,d,dt,sl⟩:=o
 dsimp only at hd
 subst hd
 cases hi:es.findIdx? (·.key.isStr name) with
|some i=>
  refine ⟨_,_,ep,gb _ D (by simp only [eV,eW,hi];rfl),(by simp only [eV,eW,hi];rfl),hk.modify _ _,λx=>?_,?_⟩
  ·show _=if x=name then some v else m x
   rw [<-hf x];exact findBy_modify (λn v=>v.isStr n) Value.isStr_inj es name x v i hi
  ·rw [Array.size_modify]
   split<;>(first|assumption|exact zo qL)
|none=>
  have hm:m name=none:=by
   rw [<-hf]
   unfold nsFind findBy
   rw [Array.findIdx?_eq_none_iff] at hi
   rw [Array.find?_eq_none.mpr (λe he=>by show ¬ e.key.isStr name=true;rw [hi e he];decide)];rfl
  refine ⟨_,_,ep+1,gb _ D (by simp only [eV,eW,hi];rfl),(by simp only [eV,eW,hi];rfl),hk.push _ _ _ _,λx=>?_,?_⟩
  ·show _=if x=name then some v else m x
   rw [<-hf x]
   exact findBy_push (λn v=>v.isStr n) es name x _ _ v (λy=>(gZ name y).trans (decide_eq_decide.mpr eq_comm)) hi
  ·rw [hm,Array.size_push]
   exact aL qL
theorem afy{m:Str->Option Value}{k:Nat}{Q:Unit->Shared->Prop}(hn:q9 s.heap dx m k)
  (h:∀h',q9 h' dx (λy=>if y=name then some v else m y) (if (m name).isSome then k else k+1)->bY dx s.heap h'->Q () { s with heap:=h',toks:=s.toks+1 }):wpAny (model prog w) A (nsSet dx name v) Q E s:=by
 obtain ⟨o,es,ep,D,hd,hk,hf,qL⟩:=hn
 unfold nsSet
 refine wpAny_bind (wpAny_bind (wpAny_askSetting (wpAny_pure (wpAny_bind (wpAny_mkText (wpAny_bind (wpAny_loadPart D ?_)))))))
 rw [hd]
 dsimp only
 have afz:es.any (·.refKey)=false:=by
  rw [Array.any_eq_false'];intro e he;obtain ⟨n,t,h⟩:=hk e he;simp [ig,h]
 rw [aRefKeyMayBeTheName_at,afz,Bool.and_false]
 refine wpAny_updatePart D (h _ ?_ (d7 ..))
 exact afx D hd hk hf qL
theorem afA{h:Heap}{m:Str->Option Value}{k:Nat}(hn:q9 h dx m k)(hz:k<=65537):∃o,h.get? dx=some o/\o.data.pastItsLine=none:=hn.elim λo z=>z.elim λes z=>z.elim λep z=>⟨o,z.1,z.2.1▸pastItsLine_dict (ah z.2.2.2.2 (ah hz (by rw [sizeLine_eq];decide)))⟩
theorem afB{R:Result->Shared->Prop}{K:Frag}{x C:Addr}{od:Obj}{tk:Tok}{m:Str->Option Value}(X:K.In s.heap)(I:PySem.W.InstAt s.heap x (IE C dx) C (some od))(hp:plainOver K C=true)
  (ht:takerIn K C name=some none) (hh:(clsIn K C).any (·.hasDict)=true) {k:Nat} (hn:q9 s.heap dx m k) (hz:k+1<=65537)
  (h:∀h',q9 h' dx (λy=>if y=name then some v else m y) (if (m name).isSome then k else k+1)->bY dx s.heap h'->R (.ok (.ret .none)) { s with heap:=h',toks:=s.toks+1 }) :
  codeAny (model prog w) A (.call (.builtin "object.__setattr__") ⟨[.ref x,.str name tk,v],[]⟩) R s:=(any_some hh).elim λcd z=>by
 refine osa_open X I hp ht λb=>wpAny_bind (wpAny_pure (wpAny_bind (wpAny_bind (wpAny_loadPart I.1 (wpAny_bind ((looks_clsIn X z.1).here ?_))))))
 rw [z.2]
 refine wpAny_pure (a:=some dx) (wpAny_bind (wpAny_pure (wpAny_bind (afy hn λh' ph hs=>?_))))
 refine (afA ph (by split<;>first|exact hz|exact cw hz)).elim λo y=>?_
 refine wpAny_bind (wpAny_lookBehind y.1 y.2 ?_)
 exact wpAny_pure (h h' ph hs)
theorem afC{m m':Str->Option Value}{a:Str}(hn:q9 h' dx m' (if (m a).isSome then fs.length else fs.length+1))(hr:NR X m fs):q9 h' dx m' (jz fs a p).length:=by
 rw [Ey]
 refine xo (ja fs a) (λg=>?_) λq g=>?_
 ·rw [hr.no g] at hn
  rw [g];exact hn
 ·obtain ⟨v,g',_⟩:=hr.has g
  rw [g'] at hn
  rw [g];exact hn
theorem NR.put{m:Str->Option Value}{a:Str}(hr:NR X m fs)(U:VR X u p):NR X (λy=>if y=a then some u else m y) (jz fs a p):=λy=>by
 rw [afw]
 by_cases q:y=a
 ·rw [if_pos q];exact .inr ⟨p,u,rfl,if_pos q,U⟩
 ·rw [if_neg q];exact (hr y).imp (λz=>⟨z.1,(if_neg q).trans z.2⟩) λz=>z.elim λp z=>z.elim λv z=>⟨p,v,z.1,(if_neg q).trans z.2.1,z.2.2⟩
theorem set_inv{a:Str}{G:Prop}(h:sf T o a p η=some iY)(k:∀r i c fs ns,o=.ref r i->η.get r i=some (.inst c fs)->jv T.fields c=some ns->oN ns a=true->kB (fs.length+1)=true->η.set r i (.inst c (jz fs a p))=iY->G):G:=
 jg h λJ e h=>jg h λJ e2 h=>jg h λJ e3 h=>xc h λc h=>xb c λc1 c2=>k _ _ _ _ _ (uG e) (Er e2) e3 c1 c2 (ai h)
theorem Rn{a:Str}{Q:Unit->Shared->Prop}(FO:Ew w.params T)(h:sf T o a p η=some iY)(rv:VR X v o)(U:VR X u p)(B:Base w X η s.heap)
  (k:∀{h' t},Ext X s no X { s with heap:=h',toks:=t }->Base w X iY h'->Q () { s with heap:=h',toks:=t }):wpAny (model pw w) A (setAttr v a u) Q E s:=
 set_inv h λr i c fs ns e g e3 c1 c2 e'=>Ex (v:=v) B (e▸rv) g λad dx m ob ea ed I lk hn hr=>
  have F:=FO _ _ e3 _ c1
  set_plain B.kf I F.set (afB (s:={ s with toks:=s.toks+1 }) B.kf I F.over (by unfold takerIn;rw [F.find];rfl) F.dict hn (aL (cw (ql c2))) λh' ph hs=>
   have hda:ad≠dx:=λe=>xf (B.inj (e▸ed) ea).2.2
   jB (upd (o':=.inst c (jz fs a p)) (t:=s.toks+1+1) B g ed hs (ph.elim λo z=>z.elim λJ z=>z.elim λJ z=>⟨o,z.1⟩) (.refl X) rfl rfl .inl (λ{v e} q=>(B.tD q).elim λl z=>z.elim λu z=>nomatch g.symm.trans z.1) ea ⟨dx,_,ed,(hs.2 ad hda).trans I.1,afC ph hr,hr.put U⟩) λE1 B1=>k E1 (e'▸B1))
end
end
section
open PySem.SeqAt
section
variable{w:World}{X:Em}{iY:AH}{s s':Shared}{v u x:Value}{p q o:PV}{T:Tab}{E:Value->Shared->Prop}{i:Nat}
structure Jj(w:World)(T:Tab):Prop where
 at_:∀{a l},jv T.tE a=some l->∀{X η h},Base w X η h->a≠sysModules/\∃kvs,h.DictOf (strKind pw w) a kvs/\KR X kvs l
theorem vL(h:yh p=some j):p=.int j/\j<65536:=jg h λi e h=>xc h λc h=>xb c λc1 c2=>by
 have c1:=of_decide_eq_true c1
 have c2:=of_decide_eq_true c2
 have h:=ai h
 subst h
 exact ⟨by rw [vH e,gJ c1],by omega⟩
theorem item_cases{P:PV->PV->PV->Prop}(h:jD T o q η=some p)(tt:∀l (j:Nat),j<65536->l[j]?=some p->P (.tup l) (.int j) p)(ss:∀s (j:Nat),j<65536->j<s.length->P (.str s) (.int j) (.str (bh #[s.cps.getD j 0])))(dd:∀a l x,jv T.tE a=some l->ja l x=some p->P (.st (.ref a)) (.str x) p)
  (ll:∀r i l (j:Nat),η.get r i=some (.list l)->j<65536->l[j]?=some p->P (.ref r i) (.int j) p) (sd:∀r i l u x,η.get r i=some (.sd l u)->ja l x=some p->P (.ref r i) (.str x) p):P o q p:=by
 induction o using PV.casesOn with
|tup l=>exact jg h λj e h=>(vL e).1▸tt l j (vL e).2 h
|str s=>exact jg h λj e h=>xc h λc h=>(vL e).1▸ai h▸ss s j (vL e).2 (uE c)
|st y=>
  induction y using Value.casesOn with
 |ref a=>exact jg h λx e h=>jg h λl e2 h=>vJ e▸dd a l x e2 h
 |_=>exact xn h
|ref r i=>
  refine jg h λo g h=>?_
  induction o using AO.casesOn with
 |list l=>exact jg h λj e h=>(vL e).1▸ll r i l j g (vL e).2 h
 |sd l u=>exact jg h λx e h=>vJ e▸sd r i l u x g h
 |_=>exact xn h
|_=>exact xn h
def afD(s:Shared)(o:Value):Prop:=∃T id,typeLookup (.type T) "__getitem__"=pure (some (.builtin id))/\s.TypeIs o T
theorem BR{Q:Value->Shared->Prop}(hT:afD s v)(hs:∃ops,subscripted slice false v u=operate ops (getItem v u))(h:wpAny (model pw w) A (getItem v u) Q E s):wpAny (model pw w) A (subscriptTail value slice v u) Q E s:=hT.elim λT z=>z.elim λid z=>hs.elim λops hs=>by
 unfold subscriptTail
 refine wpAny_bind ?_
 rw [getitemInPython_of_ne z.2.not_modules]
 refine wpAny_bind (wpAny_specialOf z.2 z.1 ?_)
 have fin:wpAny (model pw w) A (subscripted slice false v u) (λr Ro=>wpAny (model pw w) A (letTemporaryGo value v r >>= λJ=>pure r) Q E Ro) E s:=by
  rw [hs]
  exact wpAny_operating (wpAny_mono h (λr Ro afE=>wpAny_bind (wpAny_letTemporaryGo (wpAny_pure afE))) λJ J x=>x)
 first
 |exact wpAny_pure (wpAny_bind fin)
 |exact wpAny_bind (wpAny_pure (wpAny_bind fin))
 |exact wpAny_bind fin
theorem Rp(h:j<n):seqIndex? (j:Int) n=some j:=by
 simp only [seqIndex?,if_neg (eM.mpr (eF j))]
 rw [if_pos (by simp;omega)]
 rfl
theorem Ez(hs:isSlice slice=false):∃ops,subscripted slice false v u=operate ops (getItem v u):=⟨[v,u],by cases slice<;>first|rfl|exact xg hs⟩
theorem afF{Q:Value->Shared->Prop}(DO:Jj w T)(hs:isSlice slice=false)(h:jD T o q η=some p)(rv:VR X v o)(t:VR X u q)(B:Base w X η s.heap)(k:∀{v} t,VR X v p->Q v { s with toks:=t }):wpAny (model pw w) A (subscriptTail value slice v u) Q E s:=by
 have dict:∀{a kvs l x p},s.heap.DictOf (strKind pw w) a kvs->KR X kvs l->ja l x=some p->VR X u (.str x)->(∀{v} t,VR X v p->Q v { s with toks:=t })->wpAny (model pw w) A (subscriptTail value slice (.ref a) u) Q E s:=λ{a kvs l x p} D R hp t k=>by
  rw [Ja] at hp
  exact (afa R hp).elim λv z=>BR ⟨_,_,PySem.slot_dict_getitem.lookup,D.typeIs⟩ (Ez hs) (wpAny_getItem_of (vS t λt=>strKind_is pw w x t) D.mapOf z.1 (k _ z.2))
 refine item_cases (P:=λo q p=>VR X v o->VR X u q->(∀{v} t,VR X v p->Q v { s with toks:=t })->wpAny (model pw w) A (subscriptTail value slice v u) Q E s) h ?_ ?_ ?_ ?_ ?_ rv t k
 ·exact λl j hj h r t k=>vU r λa vs n e rs=>vI t λt=>(rs.get h).elim λy z=>BR ⟨"tuple",_,PySem.F.slot_tuple_getitem.lookup,⟨_,B.fz e,rfl⟩⟩ (Ez hs) (PySem.P.getItem_tuple (B.fz e) (by omega) (by omega) (Rp (cY.mp z.1).1) (cZ.trans z.1) (k _ z.2))
 ·refine λx j hj hl r t k=>vS r λtk=>vI t λt=>BR ⟨"str",_,PySem.F.slot_str_getitem.lookup,typeIs_str s x tk⟩ (Ez hs) (PySem.P.getItem_str ?_ ?_ (k _ (.str _ _)))
  ·rw [iu]
   exact ⟨decide_eq_false (by omega),decide_eq_false (by omega)⟩
  ·rw [Rp hl]
   show x.cps[j]?=_
   rw [dJ,d8 hl];rfl
 ·exact λa l x e h r t k=>vT r λJ=>(DO.at_ e B).2.elim λkvs z=>dict z.1 z.2 h t k
 ·exact λr i l j g hj h rv t k=>uF B rv g λa vs n J e rs=>vI t λt=>(rs.get h).elim λy z=>BR ⟨"list",_,PySem.F.slot_list_getitem.lookup,(oE e).typeIs⟩ (Ez hs) (wpAny_getItem_list (oE e) (by omega) (by omega) (cZ.trans z.1) (k _ z.2))
 ·exact λr i l u x g h rv t k=>yp B rv g λa kvs e ea J D R=>dict D.dictOf R h t k
theorem jr.set(U:VR X u p){l:List PV}:∀{vs:List Value} (j:Nat),jr X vs l->jr X (vs.set j u) (l.set j p):=by
 induction l with
|nil=>exact λJ rs=>oM rs .nil
|cons q l ih=>exact λj rs=>mK rs λv vs r rs=>match j with
 |0=>.cons U rs
 |j+1=>.cons r (ih j rs)
theorem Rq{l l':List PV}{Jl:List Value}{a:Addr}{t:Nat}(B:Base w X η s.heap)(g:η.get r i=some (.list l))(ea:X.ad r i false=some a)(ho:h'.get? a=some (q8 Jl n))(hs:bY a s.heap h')(rs:jr X Jl l'):
  Ext X s no X { s with heap:=h',toks:=t }/\Base w X (η.set r i (.list l')) h':=
 upd B g ea hs ⟨_,ho⟩ (.refl X) rfl rfl .inl (λq=>(B.tD q).elim λJ z=>z.elim λJ z=>nomatch g.symm.trans z.1) ea ⟨Jl,n,ho,rs⟩
theorem Jm{o:AO}{l':List (Str×PV)}{a:Addr}{yr:List (Str×Value)}{t:Nat}(B:Base w X η s.heap)(g:η.get r i=some o)(hu:∀{l u},o=.sd l u->u<n)(ea:X.ad r i false=some a)(D:h'.DictOf (strKind pw w) a yr)(hs:bY a s.heap h')(R:KR X yr l'):
  ∃Y,Ext X s no Y { s with heap:=h',toks:=t }/\Base w Y (η.set r i (.sd l' n)) h':=by
 obtain ⟨e',D'⟩:=D.dictAt
 have old:∀{v c},X.ep r i v=some c->v<n:=λq=>(B.tD q).elim λl z=>z.elim λu z=>av z.2 (hu (ai (g.symm.trans z.1)))
 have le:X.Le (X.note r i n (some e')):=Em.ae1 λc q=>aM _ (old q)
 refine ⟨_,upd (Y:=X.note r i n (some e')) B g ea hs (D.elim λo z=>z.elim λJ z=>z.elim λJ z=>⟨o,z.1⟩) le rfl rfl (λ{r' i' v c} q=>?_) (λ{v c} q=>⟨l',n,rfl,?_⟩) ea ⟨yr,e',if_pos ⟨rfl,rfl,rfl⟩,D',R.mono le⟩⟩
 ·by_cases z:r'=r/\i'=i/\v=n
  ·exact .inr ⟨z.1,z.2.1⟩
  ·exact .inl ((if_neg z).symm.trans q)
 ·by_cases z:r=r/\i=i/\v=n
  ·exact aq z.2.2
  ·exact aD (old ((if_neg z).symm.trans q))
theorem Rr{o:AO}{l':List (Int×PV)}{a:Addr}{yr:List (Int×Value)}{t:Nat}(B:Base w X η s.heap)(g:η.get r i=some o)(hu:∀{l u},o≠.sd l u)(ea:X.ad r i false=some a)(D:h'.DictOf (intKind pw w) a yr)(hs:bY a s.heap h')(R:KR X yr l'):
  Ext X s no X { s with heap:=h',toks:=t }/\Base w X (η.set r i (.rY l')) h':=
 upd B g ea hs (D.elim λo z=>z.elim λJ z=>z.elim λJ z=>⟨o,z.1⟩) (.refl X) rfl rfl .inl (λq=>(B.tD q).elim λJ z=>z.elim λJ z=>absurd (ai (g.symm.trans z.1)) hu) ea ⟨yr,D,R⟩
def afG(w:World)(A:Around)(F:Addr->Value->Value->Sem Unit):Prop:=∀{K:Type} [DecidableEq K] {knd:KeyKind pw w K} {kvs:List (K×Value)} {k:K} {d:Addr} {key v:Value} {Q:Unit->Shared->Prop} {E:Value->Shared->Prop} {s:Shared},knd.is k key=true->s.heap.DictOf knd d kvs->
 (∀h',h'.DictOf knd d (stored kvs k v)->bY d s.heap h'->Q () { s with heap:=h',toks:=s.toks+1 })->kvs.length<=sizeLine->wpAny (model pw w) A (F d key v) Q E s
theorem Rt{F:Addr->Value->Value->Sem Unit}{o:AO}{d:Addr}{Q:Unit->Shared->Prop}(L:afG w A F)(h:Ej o q p=some o')(g:η.get r i=some o)(ea:X.ad r i false=some d)(t:VR X u q)(z:VR X x p)(B:Base w X η s.heap)
  (k:∀{Y h' tk},Ext X s no Y { s with heap:=h',toks:=tk }->Base w Y (η.set r i o') h'->Q () { s with heap:=h',toks:=tk }):wpAny (model pw w) A (F d u x) Q E s:=by
 have nil:s.heap.get? d=some zB->∀{K:Type} [DecidableEq K] {knd:KeyKind pw w K},s.heap.DictOf knd d []:=λe J J J=>(yo e).dictOf
 have ob:=(B.ob g).elim λa y=>ai (y.1.symm.trans ea)▸y.2
 induction o using AO.casesOn with
|sd l u=>
  refine jg h λy e h=>xc h λc h=>ay ob λkvs ob=>ob.elim λe0 ob=>?_
  have R:=ob.2.2
  refine L (Es e t λt=>strKind_is pw w y t) ob.2.1.dictOf (λh' D hs=>(Jm (n:=u+1) (t:=s.toks+1) B g (λe=>by cases e;exact bG _) ea D hs (QN l y p▸Jc z R ob.2.1.nodup)).elim λY y=>k y.1 (ai h▸y.2)) ?_
  rw [tT R,sizeLine_eq]
  exact ah (cw (ql c)) (dc rfl)
|rY l=>
  refine jg h λy e h=>xc h λc h=>ay ob λkvs ob=>ob.1.dictAt.elim λep D'=>?_
  have R:=ob.2
  refine L (tU e t λt=>intKind_is pw w y t) ob.1 (λh' D hs=>jB (Rr (t:=s.toks+1) B g (λe=>by cases e) ea D hs (ae8 l y p▸Jc z R D'.nodup)) λE1 B1=>k E1 (ai h▸B1)) ?_
  rw [tT R,sizeLine_eq]
  exact ah (cw (ql c)) (dc rfl)
|jm=>
  induction q using PV.casesOn with
 |str y=>exact L (knd:=strKind pw w) (vS t λt=>strKind_is pw w y t) (nil ob) (λh' D hs=>(Jm (n:=0) (t:=s.toks+1) B g (λe=>by cases e) ea D hs (.cons z .nil)).elim λY y=>k y.1 (ai h▸y.2)) (bx _)
 |int y=>exact L (knd:=intKind pw w) (vI t λt=>intKind_is pw w y t) (nil ob) (λh' D hs=>jB (Rr (t:=s.toks+1) B g (λe=>by cases e) ea D hs (.cons z .nil)) λE1 B1=>k E1 (ai h▸B1)) (bx _)
 |_=>exact xn h
|_=>exact xn h
theorem afH{l:Addr}{vs:List Value}{m k:Nat}{j:Int}{t:Tok}{Q:Unit->Shared->Prop}(hl:s.heap.get? l=some (q8 vs m))(hj:j=k)(afJ:k<65536)(hn:k<vs.length)
  (hQ:∀h' n',h'.get? l=some (q8 (vs.set k v) n')->bY l s.heap h'->Q () { s with heap:=h' }):wpAny (model pw w) A (setItem (.ref l) (.int j t) v) Q E s:=by
 have hL:=oE hl
 have hf:ie j=true:=fitsIndex_of (by omega) (by omega)
 clear afJ
 unfold setItem
 try with_reducible refine wpAny_holding ?_
 first|refine wpAny_bind (wpAny_pure ?_)|skip
 refine wpAny_bind (wpAny_sequenceKey hL.typeIs (dc rfl) ?_)
 refine wpAny_bind (wpAny_callSpecial?_slot (name:=ao "__setitem__") hL.typeIs slot_list_setitem (wpAny_call_entry slot_list_setitem hL.typeIs entry_list_setitem ?_ (args_list_setitem _ _ _)))
 show wpAny _ _ (Builtin.List.listSubscript? (.int j t) >>= _) _ _ s
 refine wpAny_bind (wpAny_listSubscript_int hf ?_)
 subst hj
 show wpAny _ _ ((seqItemAt l k >>= λr=>pure (r.map (k,·))) >>= _) _ _ s
 refine wpAny_bind (wpAny_bind (wpAny_seqItemAt hl rfl (wpAny_pure ?_)))
 rw [cZ,aR hn]
 show wpAny _ _ (setSeqItemAt l k v >>= _) _ _ s
 have ho:∃n',(s.heap.update l (bc (·.setIfInBounds k v))).get? l=some ⟨.type "list",none,.seq (vs.toArray.setIfInBounds k v) n',#[]⟩:=⟨_,gb _ hl rfl⟩
 rw [List.setIfInBounds_toArray] at ho
 obtain ⟨n',ho⟩:=ho
 have fin:=hQ _ _ ho (d7 ..)
 refine wpAny_bind (wpAny_setSeqItemAt hl rfl ?_)
 first
 |exact wpAny_bind (wpAny_pure (wpAny_pure ⟨.none,rfl,wpAny_pure fin⟩))
 |exact wpAny_pure ⟨.none,rfl,wpAny_pure fin⟩
theorem afK{Q:Unit->Shared->Prop}(h:mV o q p η=some iY)(rv:VR X v o)(t:VR X u q)(z:VR X x p)(B:Base w X η s.heap)
  (k:∀{Y h' tk},Ext X s no Y { s with heap:=h',toks:=tk }->Base w Y iY h'->Q () { s with heap:=h',toks:=tk }):wpAny (model pw w) A (setItem v u x) Q E s:=by
 refine jg h λc e h=>jg h λo g h=>?_
 have rv:=uG e▸rv
 induction o using AO.casesOn with
|list l=>exact jg h λj e h=>xc h λc1 h=>xb c1 λc1 c2=>uF B rv g λa vs n ea e1 rs=>vI (v:=u) ((vL e).1▸t) λt=>afH e1 rfl (vL e).2 (rs.length▸uE c1) λh' n' ho hs=>jB (Rq (t:=s.toks) B g ea ho hs (jr.set z j rs)) λE1 B1=>k E1 (ai h▸B1)
|_=>exact jq h λo' h e=>vR rv λa ea=>Rt (F:=λd=>setItem (.ref d)) (λh1 h2 h3 h4=>wpAny_setItem_pairs h1 h2 h3 h4) h g ea t z B λE1 B1=>k E1 (e▸B1)
theorem afL{o:AO}{d:Addr}{Q:Unit->Shared->Prop}(hn:yi (some o)=true)(g:η.get r i=some o)(h:mV (.ref r i) q p η=some iY)(ea:X.ad r i false=some d)(t:VR X u q)(z:VR X x p)(B:Base w X η s.heap)
  (k:∀{Y h' tk},Ext X s no Y { s with heap:=h',toks:=tk }->Base w Y iY h'->Q () { s with heap:=h',toks:=tk }):wpAny (model pw w) A (dictSet d u x) Q E s:=by
 refine jg (show ((η.get r i).bind _)=some iY from h) λapc g' h=>?_
 obtain rfl:=ai (g.symm.trans g')
 refine xo o.lst (λe=>?_) λl e=>?_
 ·rw [e] at h
  exact jq h λo' h e=>Rt (F:=dictSet) (λh1 h2 h3 h4=>wpAny_dictSet_pairs h1 h2 h3 h4) h g ea t z B λE1 B1=>k E1 (e▸B1)
 ·cases o<;>first|exact xn e|exact xf hn
end
end
section
open PySem.SeqAt
noncomputable abbrev Vw:=Str->Option PV
noncomputable def Vw.put(ρ:Vw)(x:Str)(v:PV):Vw:=λy=>if y=x then some v else ρ y
structure Fr(X:Em)(sc:Scope)(env:Env)(ρ:Vw)(h:Heap):Prop where
 k:env.scope.kind=.function
 g:env.globals=mainGlobals
 b:env.builtins=builtinsNs
 kd:∀{x k},kindS sc x=some k->env.kindOf x=some k\/k=.free/\env.kindOf x=some .cell
 db:∀{x k},kindS sc x=some k->(x == ("__debug__":Str))=false/\(x == ("__classdict__":Str))=false
 ns:∃m,h.Ns env.locals m/\∀{x p},kindS sc x=some .local->ρ x=some p->∃v,m x=some v/\VR X v p
 ut:¬ X.kH env.locals
 ce:∀{x c},env.cells.lookup x=some c->¬ X.kH c/\c≠env.locals/\∃v,h.IsCell c v
 ap:∀{x y c},env.cells.lookup x=some c->env.cells.lookup y=some c->x=y
 cv:∀{x p},kindS sc x=some .cell\/kindS sc x=some .free->ρ x=some p->∃c v,env.cells.lookup x=some c/\h.IsCell c (some v)/\VR X v p
 cl:∀{x},kindS sc x=some .cell\/kindS sc x=some .free->∃c,env.cells.lookup x=some c
def own(sc:Scope)(env:Env)(a:Addr):Prop:=a=env.locals\/∃x,kindS sc x=some .cell/\env.cells.lookup x=some a
def yt(env:Env)(a:Addr):Prop:=a=env.locals\/∃x,env.cells.lookup x=some a
theorem EA{sc:Scope}{env:Env}{a:Addr}(h:own sc env a):yt env a:=h.imp id λz=>z.elim λx z=>⟨x,z.2⟩
structure uH(A:Around)(n:Nat):Prop where
 h:A.handled=none
 d:A.depth+2*n<1000
 u:A.units+16*n+16<9900
theorem uH.less{m:Nat}(r:uH A n)(h:m<=n):uH A m:=⟨r.h,by have:=r.d;exact abN h this,by have:=r.u;exact abO h this⟩
theorem uH.cm(r:uH A n):A.units+1<cLine:=by have:=r.u;unfold cLine;exact ZZ this
section
variable{w:World}{X Y:Em}{iY:AH}{s s':Shared}{sc:Scope}{env:Env}{ρ BU:Vw}{h:Heap}{E:Value->Shared->Prop}{v:Value}{p:PV}
theorem yu{c:Addr}{o:Option Value}(x:h.IsCell c o)(k:∀o,h.get? c=some o->h'.get? c=some o):h'.IsCell c o:=x.elim λo z=>⟨o,k o z.1,z.2⟩
theorem Jo{c:Addr}{m:Str->Option Value}(x:h.Ns c m)(k:∀o,h.get? c=some o->h'.get? c=some o):h'.Ns c m:=x.elim λo z=>z.elim λes z=>z.elim λep z=>⟨o,es,ep,k o z.1,z.2⟩
theorem Fr.at(F:Fr X sc env ρ h)(le:X.Le Y)(k:∀{a o},yt env a->h.get? a=some o->¬ X.kH a->h'.get? a=some o/\¬ Y.kH a)(sub:∀{x p},BU x=some p->ρ x=some p):Fr Y sc env BU h' where
 k:=F.k
 g:=F.g
 b:=F.b
 kd:=F.kd
 db:=F.db
 ns:=F.ns.elim λm z=>⟨m,Jo z.1 λo ho=>(k (.inl rfl) ho F.ut).1,λq g=>(z.2 q (sub g)).elim λv z=>⟨v,z.1,z.2.mono le⟩⟩
 ut:=F.ns.elim λm z=>z.1.elim λo z=>z.elim λJ z=>z.elim λJ z=>(k (.inl rfl) z.1 F.ut).2
 ce {x c} q:=(F.ce q).2.2.elim λv z=>z.elim λo y=>
  have K:=k (.inr ⟨x,q⟩) y.1 (F.ce q).1
  ⟨K.2,(F.ce q).2.1,v,o,K.1,y.2⟩
 ap:=F.ap
 cv {x p} q g:=(F.cv q (sub g)).elim λc z=>z.elim λv z=>⟨c,v,z.1,yu z.2.1 λo ho=>(k (.inr ⟨x,z.1⟩) ho (F.ce z.1).1).1,z.2.2.mono le⟩
 cl:=F.cl
theorem Fr.ext(F:Fr X sc env ρ s.heap)(e:Ext X s no Y s'):Fr Y sc env ρ s'.heap:=F.at e.le (λJ ho n=>⟨e.keep _ _ ho n id,e.off ho n⟩) id
theorem Fr.alive(F:Fr X sc env ρ h){a:Addr}(q:yt env a):(∃o,h.get? a=some o)/\¬ X.kH a:=q.elim (λq=>q▸⟨F.ns.elim λm z=>z.1.elim λo z=>z.elim λJ z=>z.elim λJ z=>⟨o,z.1⟩,F.ut⟩) λq=>q.elim λx q=>⟨(F.ce q).2.2.elim λv z=>z.elim λo z=>⟨o,z.1⟩,(F.ce q).1⟩
theorem Ext.one{c:Addr}{F:Addr->Prop}{t:Nat}(hs:bY c s.heap h')(hf:F c)(ha:∃o,h'.get? c=some o):Ext X s F X { s with heap:=h',toks:=t } where
 le:=.refl X
 off _ n:=n
 live a o e _ _:=by
  by_cases z:a=c
  ·exact z▸ha
  ·exact ⟨o,(hs.2 a z).trans e⟩
 keep a o e _ q:=(hs.2 a λz=>q (z▸hf)).trans e
 gens:=rfl
 os:=rfl
theorem afM{x:Str}{Q:Unit->Shared->Prop}(hx:tH sc x=true)(B:Base w X η s.heap)(F:Fr X sc env ρ s.heap)(rv:VR X v p)(k:∀{s'},Ext X s (own sc env) X s'->Base w X η s'.heap->Fr X sc env (ρ.put x p) s'.heap->Q () s'):wpAny (model pw w) A (storeName env x v) Q E s:=by
 unfold tH at hx
 generalize hk:kindS sc x=kx at hx
 have put:∀{y q},ρ.put x p y=some q->y=x/\q=p\/y≠x/\ρ y=some q:=λ{y q} h=>by
  by_cases e:y=x
  ·exact .inl ⟨e,(ai ((if_pos e).symm.trans h)).symm⟩
  ·exact .inr ⟨e,(if_neg e).symm.trans h⟩
 have loc:kindS sc x=some .local->wpAny (model pw w) A (storeName env x v) Q E s:=λhk=>F.ns.elim λm z=>by
  refine wpAny_storeName_local ((F.kd hk).elim id λy=>nomatch y.1) z.1 (λh' hn hs=>?_) (by rw [F.k];rfl)
  refine k (Ext.one hs (.inl rfl) (hn.elim λo z=>z.elim λJ z=>z.elim λJ z=>⟨o,z.1⟩)) (B.same F.ut hs) ⟨F.k,F.g,F.b,F.kd,F.db,⟨_,hn,λ{y q} ky g=>?_⟩,F.ut,λq=>⟨(F.ce q).1,(F.ce q).2.1,(F.ce q).2.2.elim λu y=>⟨u,yu y λo=>((hs.2 _ (F.ce q).2.1).trans ·)⟩⟩,F.ap,λ{y q} ky g=>?_,F.cl⟩
  ·exact (put g).elim (λe=>⟨v,if_pos e.1,e.2▸rv⟩) λe=>(z.2 ky e.2).elim λu y=>⟨u,(if_neg e.1).trans y.1,y.2⟩
  ·exact (put g).elim (λe=>ky.elim (λky=>nomatch hk.symm.trans ((congrArg (kindS sc) e.1).symm.trans ky)) λky=>nomatch hk.symm.trans ((congrArg (kindS sc) e.1).symm.trans ky)) λe=>(F.cv ky e.2).elim λc y=>y.elim λu y=>⟨c,u,y.1,yu y.2.1 λo=>((hs.2 _ (F.ce y.1).2.1).trans ·),y.2.2⟩
 have EB:kindS sc x=some .cell->wpAny (model pw w) A (storeName env x v) Q E s:=λhk=>(F.cl (.inl hk)).elim λc hc=>(F.ce hc).2.2.elim λapd afN=>by
  refine wpAny_storeName_cell F.k ((F.kd hk).elim id λy=>y.2) hc afN λh' hi hs=>?_
  refine k (Ext.one (t:=s.toks) hs (.inr ⟨x,hk,hc⟩) (hi.elim λo z=>⟨o,z.1⟩)) (B.same (F.ce hc).1 hs) ⟨F.k,F.g,F.b,F.kd,F.db,F.ns.elim λm z=>⟨m,Jo z.1 λo=>((hs.2 _ (cX (F.ce hc).2.1)).trans ·),λ{y q} ky g=>?_⟩,F.ut,λ{y d} q=>⟨(F.ce q).1,(F.ce q).2.1,?_⟩,F.ap,λ{y q} ky g=>?_,F.cl⟩
  ·exact (put g).elim (λe=>nomatch hk.symm.trans ((congrArg (kindS sc) e.1).symm.trans ky)) λe=>z.2 ky e.2
  ·by_cases e:d=c
   ·exact ⟨_,e▸hi⟩
   ·exact (F.ce q).2.2.elim λu y=>⟨u,yu y λo=>((hs.2 _ e).trans ·)⟩
  ·exact (put g).elim (λe=>⟨c,v,e.1▸hc,hi,e.2▸rv⟩) λe=>(F.cv ky e.2).elim λd y=>y.elim λu y=>⟨d,u,y.1,yu y.2.1 λo=>((hs.2 _ λz=>e.1 (F.ap (y.1.trans (congrArg some z)) hc)).trans ·),y.2.2⟩
 cases kx with
|none=>exact xf hx
|some kx=>cases kx with
 |«local»=>exact loc hk
 |cell=>exact EB hk
 |_=>exact xf hx
end
end
set_option backward.match.sparseCases true
noncomputable abbrev sm(a:Array Nat):Str:=bh a
def Ru:Str:=sm #[65,114,103,117,109,101,110,116,69,114,114,111,114]
def EC:Str:=sm #[65,114,114,97,121]
def mL:Str:=sm #[66,97,115,105,99,79,98,106,101,99,116]
def mw:Str:=sm #[66,97,115,105,99,79,98,106,101,99,116,33]
def wU:Str:=sm #[66,97,115,105,99,79,98,106,101,99,116,46]
def jE:Str:=sm #[67,108,97,115,115]
def qo:Str:=sm #[67,111,109,112,97,114,97,98,108,101]
def zK:Str:=sm #[69,110,117,109,101,114,97,98,108,101]
def ED:Str:=sm #[69,120,99,101,112,116,105,111,110]
def Rv:Str:=sm #[70,97,108,115,101,67,108,97,115,115]
def Rw:Str:=sm #[72,97,115,104]
def Jp:Str:=sm #[73,110,100,101,120,69,114,114,111,114]
def jW:Str:=sm #[73,110,116,101,103,101,114]
def ju:Str:=sm #[75]
def lu:Str:=sm #[75,33]
def j0:Str:=sm #[75,101,114,110,101,108]
def lB:Str:=sm #[76]
def jN:Str:=sm #[77]
def Ry:Str:=sm #[77,78,77]
def m7:Str:=sm #[77,33]
def lJ:Str:=sm #[77,111,100,117,108,101]
def lg:Str:=sm #[78]
def Rz:Str:=sm #[78,97,109,101,69,114,114,111,114]
def jX:Str:=sm #[78,105,108,67,108,97,115,115]
def RA:Str:=sm #[78,111,77,97,116,99,104,105,110,103,80,97,116,116,101,114,110,69,114,114,111,114]
def qt:Str:=sm #[78,117,109,101,114,105,99]
def kE:Str:=sm #[79,98,106,101,99,116]
def mR:Str:=sm #[79,98,106,101,99,116,33]
def wV:Str:=sm #[79,98,106,101,99,116,46]
def jG:Str:=sm #[80]
def jT:Str:=sm #[80,33]
def RB:Str:=sm #[82,97,110,103,101]
def RC:Str:=sm #[82,117,110,116,105,109,101,69,114,114,111,114]
def RD:Str:=sm #[83,99,114,105,112,116,69,114,114,111,114]
def tV:Str:=sm #[83,116,97,110,100,97,114,100,69,114,114,111,114]
def RG:Str:=sm #[83,116,114,105,110,103]
def Jq:Str:=sm #[83,121,109,98,111,108]
def RH:Str:=sm #[84,114,117,101,67,108,97,115,115]
def RJ:Str:=sm #[84,121,112,101,69,114,114,111,114]
def RK:Str:=sm #[95,95,105,110,105,116,95,95]
def RL:Str:=sm #[95,95,119,114,105,116,101]
def RM:Str:=sm #[33]
def Jr:Str:=sm #[46]
def pH:Str:=sm #[97,98,111,118,101]
def ape:Str:=sm #[97,99,116,111,114,115]
def EE:Str:=sm #[97,102,116,101,114]
def ly:Str:=sm #[97,103,97,105,110]
def sy:Str:=sm #[97,104,101,97,100]
def sC:Str:=sm #[97,112,112,101,110,100]
def EF:Str:=sm #[97,114,103,115]
def uI:Str:=sm #[97,116,116,97,99,104,101,100]
def EG:Str:=sm #[98,108,111,99,107]
def RN:Str:=sm #[98,108,111,99,107,95,103,105,118,101,110,63]
def yv:Str:=sm #[98,111,100,121]
def apf:Str:=sm #[98,111,111,107,115]
def RP:Str:=sm #[98,111,111,108]
def oZ:Str:=sm #[98,117,105,108,116,105,110]
def kQ:Str:=sm #[99,97,108,108]
def afO:Str:=sm #[99,97,110,39,116,32,100,101,102,105,110,101,32,115,105,110,103,108,101,116,111,110]
def RQ:Str:=sm #[99,97,116,99,104]
def RT:Str:=sm #[99,97,116,99,104,101,115]
def vM:Str:=sm #[99,108,97,115,115,95,111,102]
def uJ:Str:=sm #[99,111,100,101]
def Js:Str:=sm #[99,111,110,115,116,95,118,101,114,115,105,111,110]
def EH:Str:=sm #[99,111,110,115,116,97,110,116,115]
def afP:Str:=sm #[99,111,110,116,114,111,108]
def uK:Str:=sm #[100,101,102,105,110,101,114]
def kg:Str:=sm #[]
def RV:Str:=sm #[101,110,116,114,121]
def zL:Str:=sm #[101,110,118]
def vO:Str:=sm #[101,120,116,101,110,100]
def afQ:Str:=sm #[102,97,105,108]
def RW:Str:=sm #[102,105,98,101,114]
def zM:Str:=sm #[102,105,101,108,100,115]
def mO:Str:=sm #[102,105,114,115,116]
def tW:Str:=sm #[102,105,118,101]
def pI:Str:=sm #[102,114,111,110,116]
def zN:Str:=sm #[102,114,111,122,101,110]
def nP:Str:=sm #[103,101,116]
def Jt:Str:=sm #[103,105,118,101,95,111,119,110]
def Ju:Str:=sm #[103,108,111,98,97,108,115]
def EI:Str:=sm #[103,111,110,101]
def nQ:Str:=sm #[104,97,115]
def zO:Str:=sm #[104,101,108,100]
def Jv:Str:=sm #[104,101,114,101]
def zP:Str:=sm #[105,100,101,110,116]
def BV:Str:=sm #[105,110,100,101,120]
def tX:Str:=sm #[105,110,105,116,105,97,108,105,122,101]
def RX:Str:=sm #[105,110,105,116,105,97,108,105,122,101,95,99,111,112,121]
def RZ:Str:=sm #[105,110,116]
def ry:Str:=sm #[105,115,95,99,108,97,115,115]
def Sb:Str:=sm #[105,115,95,108,97,109,98,100,97]
def vP:Str:=sm #[105,115,95,111,119,110]
def BX:Str:=sm #[105,115,95,114,101,97,100,121]
def Sd:Str:=sm #[105,115,95,119,114,105,116,116,101,110]
def lN:Str:=sm #[107]
def qu:Str:=sm #[107,50]
def j6:Str:=sm #[107,33]
def ni:Str:=sm #[107,101,112,116]
def vQ:Str:=sm #[107,105,110,100]
def pY:Str:=sm #[108]
def Se:Str:=sm #[108,97,109,98,100,97]
def Jw:Str:=sm #[108,97,115,116,95,105,100,101,110,116]
def BZ:Str:=sm #[108,97,115,116,95,110,117,109,98,101,114]
def Sf:Str:=sm #[108,111,111,112]
def B6:Str:=sm #[109]
def tZ:Str:=sm #[109,97,100,101]
def Jx:Str:=sm #[109,97,105,110]
def Sh:Str:=sm #[109,97,107,101,95,98,117,105,108,116,105,110]
def EJ:Str:=sm #[109,101,116,104,111,100]
def Si:Str:=sm #[109,101,116,104,111,100,95,109,105,115,115,105,110,103]
def qM:Str:=sm #[109,101,116,104,111,100,115]
def mz:Str:=sm #[109,105,120,101,100]
def apg:Str:=sm #[109,111,100,117,108,101,115]
def Jy:Str:=sm #[109,111,115,116]
def EK:Str:=sm #[109,111,118,101,100]
def nE:Str:=sm #[110,97,109,101]
def Sj:Str:=sm #[110,97,109,101,115]
def kJ:Str:=sm #[110,97,116,105,118,101]
def vV:Str:=sm #[110,97,116,105,118,101,115]
def uL:Str:=sm #[110,101,115,116,105,110,103]
def yw:Str:=sm #[110,101,119,95,109,111,100,117,108,101]
def uM:Str:=sm #[110,105,108]
def Sn:Str:=sm #[110,111,100,101]
def m8:Str:=sm #[110,111,110,101]
def mC:Str:=sm #[110,117,109,98,101,114]
def aph:Str:=sm #[111,110,101]
def Jz:Str:=sm #[111,117,116]
def zQ:Str:=sm #[111,117,116,101,114]
def zR:Str:=sm #[111,117,116,115,105,100,101]
def nF:Str:=sm #[111,119,110]
def yx:Str:=sm #[111,119,110,95,98,101,104,105,110,100]
def rz:Str:=sm #[111,119,110,95,111,102]
def lK:Str:=sm #[111,119,110,101,114]
def pn:Str:=sm #[112]
def yy:Str:=sm #[112,97,114,97,109,115]
def qN:Str:=sm #[112,97,114,101,110,116]
def Sq:Str:=sm #[112,97,114,116,115]
def Ss:Str:=sm #[112,99]
def Sv:Str:=sm #[112,111,112]
def vW:Str:=sm #[112,114,101,108,117,100,101]
def Sw:Str:=sm #[112,114,105,110,116]
def nj:Str:=sm #[112,114,105,118,97,116,101]
def EL:Str:=sm #[112,114,111,99]
def lO:Str:=sm #[112,114,111,116,101,99,116,101,100]
def kh:Str:=sm #[112,117,98,108,105,99]
def t4:Str:=sm #[112,117,116,115]
def Sx:Str:=sm #[114,97,105,115,101]
def EP:Str:=sm #[114,101,97,100]
def t5:Str:=sm #[114,101,97,108,95,99,108,97,115,115]
def Sy:Str:=sm #[114,101,99,101,105,118,101,114]
def Sz:Str:=sm #[114,101,115,112,111,110,100,95,116,111,95,109,105,115,115,105,110,103,63]
def EQ:Str:=sm #[115,99,111,112,101]
def pJ:Str:=sm #[115,101,108,102]
def yz:Str:=sm #[115,101,108,102,95,118,97,108,117,101]
def SD:Str:=sm #[115,101,110,100,105,110,103]
def afR:Str:=sm #[115,101,113]
def oF:Str:=sm #[115,105,103,104,116]
def rD:Str:=sm #[115,111,114,116]
def m9:Str:=sm #[115,112,111,116,115]
def ER:Str:=sm #[115,116,97,99,107]
def SJ:Str:=sm #[115,116,97,116,101]
def afS:Str:=sm #[115,121,109]
def JA:Str:=sm #[115,121,109,98,111,108,95,105,100,101,110,116,115]
def SK:Str:=sm #[116,97,98,108,101]
def SM:Str:=sm #[116,97,103]
def JB:Str:=sm #[116,97,107,101,110]
def JC:Str:=sm #[116,104,105,110,103]
def SN:Str:=sm #[116,104,114,111,119]
def sD:Str:=sm #[116,114,101,101]
def pZ:Str:=sm #[117,110,100,101,102,105,110,101,100]
def JD:Str:=sm #[117,112,100,97,116,101]
def pK:Str:=sm #[118,97,114]
def sE:Str:=sm #[118,101,114,115,105,111,110]
def SQ:Str:=sm #[119,97,105,116,115]
def SR:Str:=sm #[119,97,121]
def apj:Str:=sm #[119,104,111]
def yC:Str:=sm #[119,111,114,108,100]
def tab:Tab where
 glob:=[((sm #[84,104,105,110,103]),(.st (.ref 38))),
 ((sm #[77,111,100,117,108,101,84,104,105,110,103]),(.st (.ref 226))),
 ((sm #[69,110,116,114,121]),(.st (.ref 254))),
 ((sm #[115,111,114,116,95,111,102]),(.st (.ref 265))),
 ((sm #[115,97,109,101]),(.st (.ref 272))),
 ((sm #[104,97,115,95,116,104,105,110,103]),(.st (.ref 299))),
 ((sm #[111,119,110,95,108,105,110,101]),(.st (.ref 304))),
 ((sm #[110,117,109,98,101,114,101,100]),(.st (.ref 309))),
 ((sm #[109,97,100,101,95,108,105,110,101]),(.st (.ref 314))),
 ((sm #[108,105,110,101,95,111,102]),(.st (.ref 321))),
 ((sm #[80,82,73,86,65,84,69,95,78,65,77,69,83]),(.tup [(.str tX),(.str RX),(.str Si),(.str Sz)])),
 ((sm #[80,82,73,86,65,84,69,95,75,69,82,78,69,76]),(.tup [(.str t4),(.str Sw),(.str pn),(.str Sx),(.str Sf),(.str RQ),(.str SN),(.str EL),(.str Se),(.str RN),(.str EC),(.str jW),(.str RL)])),
 ((sm #[71,105,118,101,110,69,110,116,114,121]),(.st (.ref 333))),
 ((sm #[115,105,103,104,116,95,111,102]),(.st (.ref 342))),
 ((sm #[103,105,118,101,110,95,101,110,116,114,121]),(.st (.ref 349))),
 ((sm #[101,110,116,114,121,95,97,116]),(.st (.ref 356))),
 ((sm #[102,105,114,115,116,95,101,110,116,114,121]),(.st (.ref 363))),
 ((sm #[102,105,110,100]),(.st (.ref 370))),
 ((sm #[114,97,105,115,101,95,118,101,114,115,105,111,110]),(.st (.ref 377))),
 ((sm #[111,119,110,95,109,111,100,117,108,101]),(.st (.ref 384))),
 ((sm #[99,108,97,115,115,95,97,98,111,118,101]),(.st (.ref 391))),
 ((sm #[109,97,107,101,95,111,119,110]),(.st (.ref 398))),
 ((sm #[99,111,112,105,101,100]),(.st (.ref 405))),
 ((sm #[105,115,95,97]),(.st (.ref 412))),
 ((sm #[114,101,115,112,111,110,100]),(.st (.ref 419))),
 ((sm #[109,97,121,95,115,101,110,100]),(.st (.ref 426))),
 ((sm #[67,97,108,108]),(.st (.ref 451))),
 ((sm #[70,114,97,109,101]),(.st (.ref 486))),
 ((sm #[83,101,110,116]),(.st (.ref 515))),
 ((sm #[105,115,95,104,105,100,100,101,110]),(.st (.ref 526))),
 ((sm #[69,110,118]),(.st (.ref 633))),
 ((sm #[84,97,115,107]),(.st (.ref 655))),
 ((sm #[87,97,108,107,101,114]),(.st (.ref 754))),
 ((sm #[114,101,102,117,115,97,108]),(.st (.ref 765))),
 ((sm #[77,79,68,85,76,69,83]),(.tup [(.str j0),(.str qo),(.str zK)])),
 ((sm #[66,85,73,76,84,73,78,83]),(.st (.ref 767))),
 ((sm #[77,73,88,69,68]),(.st (.ref 770))),
 ((sm #[87,111,114,108,100]),(.st (.ref 1054))),
 ((sm #[95,108,97,119,95,97,98,111,118,101]),(.st (.ref 1065))),
 ((sm #[95,108,97,119,95,119,105,116,104,105,110]),(.st (.ref 1072))),
 ((sm #[95,108,97,119,95,99,111,117,110,116,101,100]),(.st (.ref 1079))),
 ((sm #[95,108,97,119,95,119,104,111]),(.st (.ref 1086))),
 ((sm #[95,108,97,119,95,104,101,97,100,115]),(.st (.ref 1093))),
 ((sm #[95,108,97,119,95,115,101,110,100,101,114,115]),(.st (.ref 1100))),
 ((sm #[95,108,97,119,95,119,101,108,108]),(.st (.ref 1107))),
 ((sm #[95,108,97,119,95,100,114,97,119]),(.st (.ref 1114))),
 ((sm #[95,108,97,119,95,115,105,110,103,108,101]),(.st (.ref 1121))),
 ((sm #[95,108,97,119,95,109,105,120,101,100]),(.st (.ref 1126))),
 ((sm #[95,108,97,119,95,101,110,116,114,105,101,115]),(.st (.ref 1133))),
 ((sm #[95,108,97,119,95,98,111,111,107,115]),(.st (.ref 1140))),
 ((sm #[95,108,97,119,95,109,97,100,101]),(.st (.ref 1145))),
 ((sm #[95,108,97,119,95,99,105,114,99,108,101]),(.st (.ref 1152))),
 ((sm #[95,108,97,119,95,108,105,110,101]),(.st (.ref 1157))),
 ((sm #[95,108,97,119,95,102,111,117,110,100]),(.st (.ref 1162))),
 ((sm #[95,108,97,119,95,97,103,114,101,101,100]),(.st (.ref 1167))),
 ((sm #[108,97,119]),(.st (.ref 1172))),
 ((sm #[97,98,115]),(.st (.builtin "abs"))),
 ((sm #[100,105,99,116]),(.st (.type "dict"))),
 (RZ,(.st (.type "int"))),
 ((sm #[105,115,105,110,115,116,97,110,99,101]),(.st (.builtin "isinstance"))),
 ((sm #[108,101,110]),(.st (.builtin "len"))),
 ((sm #[108,105,115,116]),(.st (.type "list"))),
 ((sm #[114,97,110,103,101]),(.st (.type "range"))),
 ((sm #[114,101,118,101,114,115,101,100]),(.st (.type "reversed"))),
 ((sm #[115,111,114,116,101,100]),(.st (.builtin "sorted"))),
 (RP,(.st (.type "bool"))),
 ((sm #[115,116,114]),(.st (.type "str")))]
 pG:=[(35,⟨(mA 4 0),[]⟩),
 (216,⟨(mA 12 0),[.none,(.bool false),.none,.none]⟩),
 (223,⟨(mA 12 1),[]⟩),
 (243,⟨(mA 13 0),[.none,.none,(.str kh)]⟩),
 (251,⟨(mA 13 1),[.none]⟩),
 (265,⟨(dA 14),[]⟩),
 (272,⟨(dA 15),[]⟩),
 (299,⟨(dA 20),[]⟩),
 (304,⟨(dA 21),[]⟩),
 (309,⟨(dA 22),[]⟩),
 (314,⟨(dA 23),[]⟩),
 (321,⟨(dA 24),[]⟩),
 (342,⟨(dA 28),[]⟩),
 (349,⟨(dA 29),[]⟩),
 (356,⟨(dA 30),[]⟩),
 (363,⟨(dA 31),[]⟩),
 (370,⟨(dA 32),[]⟩),
 (377,⟨(dA 33),[]⟩),
 (384,⟨(dA 34),[]⟩),
 (391,⟨(dA 35),[]⟩),
 (398,⟨(dA 36),[]⟩),
 (405,⟨(dA 37),[]⟩),
 (412,⟨(dA 38),[]⟩),
 (419,⟨(dA 39),[]⟩),
 (426,⟨(dA 40),[]⟩),
 (441,⟨(mA 42 0),[(.bool false)]⟩),
 (469,⟨(mA 43 0),[]⟩),
 (505,⟨(mA 45 0),[.none,(.str kQ),.none,.none]⟩),
 (526,⟨(dA 46),[]⟩),
 (609,⟨(mA 53 0),[]⟩),
 (652,⟨(mA 54 0),[.none]⟩),
 (673,⟨(mA 55 0),[]⟩),
 (765,⟨(dA 57),[]⟩),
 (793,⟨(mA 63 0),[.none,.none,(.int (20000))]⟩),
 (814,⟨(mA 63 3),[]⟩),
 (835,⟨(mA 63 6),[]⟩),
 (840,⟨(mA 63 7),[]⟩),
 (847,⟨(mA 63 8),[]⟩),
 (855,⟨(mA 63 9),[.none,.none,.none]⟩),
 (862,⟨(mA 63 10),[]⟩),
 (869,⟨(mA 63 11),[]⟩),
 (876,⟨(mA 63 12),[]⟩),
 (890,⟨(mA 63 14),[]⟩),
 (1065,⟨(dA 65),[]⟩),
 (1072,⟨(dA 66),[]⟩),
 (1079,⟨(dA 67),[]⟩),
 (1086,⟨(dA 68),[]⟩),
 (1093,⟨(dA 69),[]⟩),
 (1100,⟨(dA 70),[]⟩),
 (1107,⟨(dA 71),[]⟩),
 (1114,⟨(dA 72),[]⟩),
 (1121,⟨(dA 73),[]⟩),
 (1126,⟨(dA 74),[]⟩),
 (1133,⟨(dA 75),[]⟩),
 (1140,⟨(dA 76),[]⟩),
 (1145,⟨(dA 77),[]⟩),
 (1152,⟨(dA 78),[]⟩),
 (1157,⟨(dA 79),[]⟩),
 (1162,⟨(dA 80),[]⟩),
 (1167,⟨(dA 81),[]⟩),
 (1172,⟨(dA 82),[]⟩)]
 oA:=[(38,35),
 (226,216),
 (254,243),
 (333,243),
 (451,441),
 (486,469),
 (515,505),
 (633,609),
 (655,652),
 (754,673),
 (1054,793)]
 meths:=[(38,[(RK,35)]),
 (226,[(vP,223)]),
 (254,[(EK,251)]),
 (333,[(EK,251)]),
 (451,[]),
 (486,[]),
 (515,[]),
 (633,[]),
 (655,[]),
 (754,[]),
 (1054,[(mC,814),(oZ,835),(Sh,840),(Jt,847),(yw,855),(vM,862),(rz,869),(yx,876),(t5,890)])]
 fields:=[(38,[zM,zN,zP,mC,nF,lK]),
 (226,[sy,uI,EH,ry,ni,qM,mz,nE,kJ,zQ,qN,zM,zN,zP,mC,nF,lK]),
 (254,[yv,uJ,uK,nE,uL,lK,yy,oF,rD]),
 (333,[yv,uJ,uK,nE,uL,lK,yy,oF,rD]),
 (451,[EF,EG,uK,RV,Sb,uL,mC,EQ,yz,oF,rD]),
 (486,[EE,kQ,uJ,zO,mC,Ss,EL,EQ,oF,ER,SM,SQ]),
 (515,[EE,EF,EG,zO,Sd,vQ,nE,Sy]),
 (633,[kQ,Sj,zQ]),
 (655,[zL,zO,ni,vQ,Sn,mC,SJ]),
 (754,[RT,RW,ER,SK,SR,yC]),
 (1054,[Js,Ju,Jv,BX,Jw,BZ,tZ,Jx,Jy,vV,Jz,vW,EP,JA,JB,sE])]
 bases:=[(38,[38]),
 (226,[226,38]),
 (254,[254]),
 (333,[333,254]),
 (451,[451]),
 (486,[486]),
 (515,[515]),
 (633,[633]),
 (655,[655]),
 (754,[754]),
 (1054,[1054])]
 tE:=[(767,[(mL,.none),(kE,(.str mL)),(lJ,(.str kE)),(jE,(.str lJ)),(j0,.none),(qo,.none),(zK,.none),(jX,(.str kE)),(RH,(.str kE)),(Rv,(.str kE)),(qt,(.str kE)),(jW,(.str qt)),(RG,(.str kE)),(Jq,(.str kE)),(EC,(.str kE)),(Rw,(.str kE)),(RB,(.str kE)),((sm #[80,114,111,99]),(.str kE)),((sm #[70,105,98,101,114]),(.str kE)),(ED,(.str kE)),(RD,(.str ED)),((sm #[78,111,116,73,109,112,108,101,109,101,110,116,101,100,69,114,114,111,114]),(.str RD)),((sm #[83,121,115,116,101,109,83,116,97,99,107,69,114,114,111,114]),(.str ED)),(tV,(.str ED)),(Ru,(.str tV)),((sm #[85,110,99,97,117,103,104,116,84,104,114,111,119,69,114,114,111,114]),(.str Ru)),((sm #[70,105,98,101,114,69,114,114,111,114]),(.str tV)),(Jp,(.str tV)),((sm #[75,101,121,69,114,114,111,114]),(.str Jp)),((sm #[83,116,111,112,73,116,101,114,97,116,105,111,110]),(.str Jp)),((sm #[76,111,99,97,108,74,117,109,112,69,114,114,111,114]),(.str tV)),(Rz,(.str tV)),((sm #[78,111,77,101,116,104,111,100,69,114,114,111,114]),(.str Rz)),(RA,(.str tV)),((sm #[78,111,77,97,116,99,104,105,110,103,80,97,116,116,101,114,110,75,101,121,69,114,114,111,114]),(.str RA)),((sm #[82,97,110,103,101,69,114,114,111,114]),(.str tV)),(RC,(.str tV)),((sm #[70,114,111,122,101,110,69,114,114,111,114]),(.str RC)),(RJ,(.str tV)),((sm #[90,101,114,111,68,105,118,105,115,105,111,110,69,114,114,111,114]),(.str tV))]),
 (770,[(kE,(.tup [(.str j0)])),(qt,(.tup [(.str qo)])),(RG,(.tup [(.str qo)])),(Jq,(.tup [(.str qo)])),(EC,(.tup [(.str zK)])),(Rw,(.tup [(.str zK)])),(RB,(.tup [(.str zK)]))])]
set_option backward.match.sparseCases false
structure JF(P:Params)(c:Addr)(name:Str)(f:Addr):Prop where
 ga:findIn (Kf P) (.ref c) "__getattribute__"=some (some (.builtin "object.__getattribute__"))
 gk:findIn (Kf P) (.ref c) "__getattr__"=some none
 fnd:findIn (Kf P) (.ref c) name=some (some (.ref f))
 ty:typeIn (Kf P) (.ref f)=some (.type "function")
 sp:specialIn (Kf P) (.ref c) "__getattribute__"=some (some (.builtin "type.__getattribute__"))
 rd:readsIn (Kf P) c (.type "type")=true
 fc:findCls (Kf P) (.ref c) (.type "type") name=some (.val (.ref f))
 kp:keepIn (Kf P) (.ref f)=true
 lt:f<1173
structure afT(P:Params)(c:Addr):Prop where
 hg:plainGet (Kf P) c "__class__"=true
 hd:hasDictIn (Kf P) c=true
 ha:findIn (Kf P) (.ref c) "__class__"=some (some (.builtin "object.__class__"))
 hn:specialIn (Kf P) (.builtin "object.__class__") "__get__"=some (some (.builtin "getset_descriptor.__get__"))
 ht:takesIn (Kf P) (.builtin "object.__class__")=some true
 hm:mroIn (Kf P) c (.type "object")=some true
 pb:kitOne (Kf P) (.ref c) (.type "bool")=some false
 pi:kitOne (Kf P) (.ref c) (.type "int")=some false
 ps:kitOne (Kf P) (.ref c) (.type "str")=some false
 cl:((clsIn (Kf P) c).isSome && typeIn (Kf P) (.ref c) == some (.type "type"))=true
structure EV(P:Params)(T:Tab):Prop where
 c:∀c bs,jv T.bases c=some bs->afT P c
 m:∀c bs C B7,jv T.bases c=some bs->jv T.bases C=some B7->kitOne (Kf P) (.ref c) (.ref C)=some (bs.contains C)
structure JG(p:Arguments):Prop where
 po:p.posonlyargs=[]
 ko:p.kwonlyargs=[]
 va:p.vararg=none
 kw:p.kwarg=none
 nd:(p.args.map (·.arg)).Nodup
structure FnAt(w:World)(a:Addr)(fi:rj)(o:Obj)(fd:FuncData)(dv:List Value):Prop where
 ob:(objs w.params)[a]?=some o
 da:o.data=.func fd
 bo:fd.body=.stmts (bodyOf fi.st)
 sc:fd.scope=tQ fi.st
 pr:fd.params.args.map (·.arg)=rq fi.st
 po:JG fd.params
 cl:fd.closure=[]
 gl:fd.globals=mainGlobals
 bi:fd.builtins=builtinsNs
 co:fd.scope.isCoroutine=false
 ge:fd.scope.isGenerator=false
 kd:fd.scope.kind=.function
 ok:QC fd.scope=true
 bn:∀x∈rq fi.st,fd.scope.names.lookup x=some .local\/fd.scope.names.lookup x=some .cell
 cd:∃c oc vs t,fd.code=.ref c/\(objs w.params)[c]?=some oc/\oc.data=.fields vs/\vs[1]?=some (.str fd.qualname t)
 df:(fd.defaults=.none/\dv=[])\/∃d od m,fd.defaults=.ref d/\(objs w.params)[d]?=some od/\od.data=.seq dv.toArray m
 dl:dv.length<=(fd.params.args.map (·.arg)).length
 dr:∀X η h,Base w X η h->jr X dv fi.dflt
structure SV(P:Params)(a fI:Addr):Prop where
 ms:makesIn (Kf P) a=true
 fi:findIn (Kf P) (.ref a) "__init__"=some (some (.ref fI))
 ty:typeIn (Kf P) (.ref fI)=some (.type "function")
def B8(w:World):Prop:=∀{A:Around} {X:Em} {η:AH} {s:Shared} {l l':List PV} {a:Addr} {vs:List Value} {n:Nat},A.handled=none->A.units+20<9900->s.heap.get? a=some (q8 vs n)->jr X vs l->bA 2 l.length=true->bA l.length 60=true->wN l=some l'->Base w X η s.heap->
 ∀{E:Value->Shared->Prop} {Q:Value->Shared->Prop},(∀{v s'},GE w X s (η.add (.list l')) (.ref η.reg η.iZ) v s'->Q v s')->wpAny (model pw w) A (call (.builtin "sorted") [.ref a]) Q E s
structure Good(w:World)(T:Tab):Prop where
 t:∀{x p},ja T.glob x=some p->∀{X η h},Base w X η h->∃v,VR X v p/\∃mg mb,h.Ns mainGlobals mg/\h.Ns builtinsNs mb/\(mg x=some v\/(mg x=none/\mb x=some v))
 d:Jj w T
 f:Ew w.params T
 m:∀{c ms},jv T.meths c=some ms->∀{name f},ja ms name=some f->JF w.params c name f
 k:∀{a fi},jv T.pG a=some fi->keepIn (Kf w.params) (.ref a)=true
 ki:∀{a fi},jv T.oA a=some fi->keepIn (Kf w.params) (.ref a)=true
 fn:∀{a fi},jv T.pG a=some fi->∃o fd dv,FnAt w a fi o fd dv
 nl:∀{X η h},Base w X η h->h.NoLimit
 i:∀{a fI},jv T.oA a=some fI->SV w.params a fI
 b:EV w.params T
 s:B8 w
set_option genCtorIdx false
inductive Tg where
|one (i:Nat)
|many (l:List Nat)
mutual
inductive X where
|k (v:PV)
|v (i:Nat)
|bin (op:Operator) (a b:X)
|no (a:X)
|vX (c:Bool) (a b:X)
|sF (t a b:X)
|jm
|dict (ps:Ps)
|list (es:Xs)
|tup (es:Xs)
|uN (elt:X) (tg:Tg) (it:X) (ifs:Xs) (fr ls:List Nat)
|EW (k v:X) (tg:Tg) (it:X) (ifs:Xs) (fr ls:List Nat)
|cmp (op:CmpOp) (a b:X)
|lP (o:X) (nm:Str) (as:Xs)
|call (f:PV) (as:Xs)
|attr (o:X) (a:Str)
|take (o e:X)
|rev (o:X)
|item (o i:X)
inductive Xs where
|nil
|cons (x:X) (r:Xs)
inductive Ps where
|nil
|cons (k v:X) (r:Ps)
end
inductive Tt where
|loc (i:Nat)
|mS (o:X) (a:Str)
|nG (o i:X)
mutual
inductive St where
|expr (e:X)
|asg (t:Tt) (e:X)
|uO (ts:List Tt) (e:X)
|aug (o:X) (a:Str) (e:X)
|ite (t:X) (a b:jn)
|qO (t:X) (b:jn)
|for (rv:Bool) (tg:Tg) (it:X) (b:jn)
|ret (e:X)
|EX
|cont
inductive jn where
|nil
|cons (s:St) (r:jn)
end
set_option genCtorIdx true
noncomputable abbrev Sl:=List (Option PV)
noncomputable def look:Sl->Nat->Option PV
|[],_=>none
|v::_,0=>v
|_::r,i+1=>look r i
noncomputable def put:Sl->Nat->Option PV->Sl
|[],_,_=>[]
|_::r,0,v=>v::r
|u::r,i+1,v=>u::put r i v
def sG:List Nat->List PV->Sl->Option Sl
|[],[],e=>some e
|i::is,v::vs,e=>sG is vs (put e i (some v))
|_,_,_=>none
def Tg.bind:Tg->PV->Sl->Option Sl
|.one i,v,e=>some (put e i (some v))
|.many l,.tup vs,e=>sG l vs e
|_,_,_=>none
def clear(e:Sl):List Nat->Sl
|[]=>e
|i::r=>clear (put e i none) r
def allB(e:Sl)(l:List Nat):Bool:=l.all λi=>(look e i).isSome
noncomputable abbrev MK:List Addr:=[1140,1145]
def jb(n:Nat)(f:PV)(vs:List PV)(η:AH)(Q:PV->AH->Prop):Prop:=∀⦃w⦄,Good w tab->∀{X s A g us} {R:Value->Shared->Prop} {E:Value->Shared->Prop},Base w X η s.heap->VR X g f->jr X us vs->uH A n->
 (∀{v s' Y p iY},Ext X s no Y s'->Base w Y iY s'.heap->VR Y v p->Q p iY->R v s')->wpAny (model pw w) A (PySem.call g us) R E s
theorem jb.mono{k:Nat}{f:PV}{vs:List PV}{P Q:PV->AH->Prop}(h:jb k f vs η P)(m:∀v η,P v η->Q v η):jb k f vs η Q:=λJ G J J J J J J J B r rs rm k=>h G B r rs rm λe b r q=>k e b r (m _ _ q)
theorem jb.le{k k':Nat}{f:PV}{vs:List PV}{Q:PV->AH->Prop}(h:jb k f vs η Q)(hk:k<=k'):jb k' f vs η Q:=λJ G J J J J J J J B r rs rm q=>h G B r rs (rm.less hk) q
def WM(k:Nat)(m:MS)(nm:Str)(vs:List PV)(η:AH)(Q:PV->AH->Prop):Prop:=match m with
|.fn f o=>match o with
 |some o=>jb k (.st (.ref f)) (o::vs) η Q
 |none=>jb k (.st (.ref f)) vs η Q
|m=>∃v iY,tP tab m nm vs η=some (v,iY)/\Q v iY
def o5(TI:Sl->AH->(Bool->AH->Prop)->Prop)(EM:Sl->AH->(AH->Prop)->Prop)(tg:Tg)(S:Src):Nat->Nat->Sl->AH->(AH->Prop)->Prop
|0,_,_,_,_=>False
|n+1,i,e,η,Q=>∃o,S.at i η=some o/\match o with
 |none=>Q η
 |some v=>∃e',tg.bind v e=some e'/\TI e' η λb η=>(b=true->EM e' η λη=>o5 TI EM tg S n (i+1) e' η Q)/\(b=false->o5 TI EM tg S n (i+1) e' η Q)
mutual
def W(k:Nat):X->Sl->AH->(PV->AH->Prop)->Prop
|.k v,e,η,Q=>Q v η
|.v i,e,η,Q=>∃v,look e i=some v/\Q v η
|.bin op a b,e,η,Q=>W k a e η λx η=>W k b e η λy η=>∃v iY,qK op x y η=some (v,iY)/\Q v iY
|.no a,e,η,Q=>W k a e η λx η=>∃b,mP x η=some b/\Q (.bool (!b)) η
|.vX c a b,e,η,Q=>W k a e η λx η=>∃t,mP x η=some t/\(t=c->W k b e η Q)/\(t=!c->Q x η)
|.sF t a b,e,η,Q=>W k t e η λu η=>∃c,mP u η=some c/\(c=true->W k a e η Q)/\(c=false->W k b e η Q)
|.jm,e,η,Q=>Q (.ref η.reg η.iZ) (η.add .jm)
|.dict ps,e,η,Q=>WP k ps e η [] λl η=>Q (.ref η.reg η.iZ) (η.add (.sd l 0))
|.list es,e,η,Q=>WL k es e η λvs η=>kB vs.length=true/\Q (.ref η.reg η.iZ) (η.add (.list vs))
|.tup es,e,η,Q=>WL k es e η λvs η=>kB vs.length=true/\Q (.tup vs) η
|.uN elt tg it ifs fr ls,e,η,Q=>W k it e η λiv η=>∃S,tG iv η=some S/\allB e fr=true/\o5 (TL k ifs) (λe' iY Q'=>W k elt e' iY λv kR=>∃jl,wL η.reg η.iZ v kR=some jl/\Q' jl) tg S (S.len η+1) 0 (clear e ls) (η.add (.list [])) (λiY=>Q (.ref η.reg η.iZ) iY)
|.EW key val tg it ifs fr ls,e,η,Q=>W k it e η λiv η=>∃S,tG iv η=some S/\allB e fr=true/\o5 (TL k ifs) (λe' iY Q'=>W k key e' iY λkv kR=>W k val e' kR λv jl=>yi (jl.get η.reg η.iZ)=true/\∃jH,mV (.ref η.reg η.iZ) kv v jl=some jH/\Q' jH) tg S (S.len η+1) 0 (clear e ls) (η.add .jm) (λiY=>Q (.ref η.reg η.iZ) iY)
|.cmp op a b,e,η,Q=>W k a e η λx η=>W k b e η λy η=>∃c,mQ op x y η=some c/\Q (.bool c) η
|.lP o nm as,e,η,Q=>W k o e η λov η=>∃m,pg tab ov nm η=some m/\WL k as e η λvs η=>WM k m nm vs η Q
|.call f as,e,η,Q=>WL k as e η λvs η=>jb k f vs η Q
|.attr o a,e,η,Q=>W k o e η λov η=>∃v,jV tab ov a η=some v/\Q v η
|.take o x,e,η,Q=>W k o e η λov η=>W k x e η λkv η=>∃v iY,En ov kv η=some (v,iY)/\Q v iY
|.rev o,e,η,Q=>W k o e η λov η=>∃v iY,IV ov η=some (v,iY)/\Q v iY
|.item o i,e,η,Q=>W k o e η λov η=>W k i e η λkv η=>∃v,jD tab ov kv η=some v/\Q v η
def WL(k:Nat):Xs->Sl->AH->(List PV->AH->Prop)->Prop
|.nil,e,η,Q=>Q [] η
|.cons x r,e,η,Q=>W k x e η λv η=>WL k r e η λvs η=>Q (v::vs) η
def WP(k:Nat):Ps->Sl->AH->List (Str×PV)->(List (Str×PV)->AH->Prop)->Prop
|.nil,e,η,acc,Q=>Q acc η
|.cons a b r,e,η,acc,Q=>W k a e η λkv η=>∃x,kv=.str x/\W k b e η λv η=>WP k r e η (jz acc x v) Q
def TL(k:Nat):Xs->Sl->AH->(Bool->AH->Prop)->Prop
|.nil,e,η,Q=>Q true η
|.cons x r,e,η,Q=>W k x e η λu η=>∃b,mP u η=some b/\(b=true->TL k r e η Q)/\(b=false->Q false η)
end
def oO(B:Sl->AH->(Fl->Sl->AH->Prop)->Prop)(tg:Tg)(S:Src):Nat->Nat->Sl->AH->(Fl->Sl->AH->Prop)->Prop
|0,_,_,_,_=>False
|n+1,i,e,η,Q=>∃o,S.at i η=some o/\match o with
 |none=>Q .next e η
 |some v=>∃e',tg.bind v e=some e'/\B e' η λf e η=>match f with
  |.ret v=>Q (.ret v) e η
  |_=>oO B tg S n (i+1) e η Q
def qv(t:Sl->AH->(PV->AH->Prop)->Prop)(B:Sl->AH->(Fl->Sl->AH->Prop)->Prop):Nat->Sl->AH->(Fl->Sl->AH->Prop)->Prop
|0,_,_,_=>False
|w+1,e,η,Q=>t e η λu η=>∃c,mP u η=some c/\(c=true->B e η λf e η=>match f with
  |.ret v=>Q (.ret v) e η
  |_=>qv t B w e η Q)/\(c=false->Q .next e η)
def Wt(k:Nat)(t:Tt)(v:PV)(e:Sl)(η:AH)(Q:Sl->AH->Prop):Prop:=match t with
|.loc i=>Q (put e i (some v)) η
|.mS o a=>W k o e η λov η=>∃iY,sf tab ov a v η=some iY/\Q e iY
|.nG o i=>W k o e η λov η=>W k i e η λkv η=>∃iY,mV ov kv v η=some iY/\Q e iY
def t6(k:Nat):List Tt->List PV->Sl->AH->(Sl->AH->Prop)->Prop
|[],[],e,η,Q=>Q e η
|t::ts,v::vs,e,η,Q=>Wt k t v e η λe η=>t6 k ts vs e η Q
|_,_,_,_,_=>False
mutual
def W1(k:Nat):St->Nat->Sl->AH->(Fl->Sl->AH->Prop)->Prop
|.expr x,w,e,η,Q=>W k x e η λv η=>v=.none/\Q .next e η
|.asg t x,w,e,η,Q=>W k x e η λv η=>Wt k t v e η (Q .next)
|.uO ts x,w,e,η,Q=>W k x e η λv η=>∃l,v=.tup l/\l.length=ts.length/\t6 k ts l e η (Q .next)
|.aug o a x,w,e,η,Q=>W k o e η λov η=>∃i,jV tab ov a η=some (.int i)/\W k x e η λv η=>∃j,v=.int j/\∃iY,sf tab ov a (.int (i+j)) η=some iY/\Q .next e iY
|.ite t a b,w,e,η,Q=>W k t e η λu η=>∃c,mP u η=some c/\(c=true->WS k a w e η Q)/\(c=false->WS k b w e η Q)
|.qO t b,w,e,η,Q=>qv (λe η Q=>W k t e η Q) (λe η Q=>WS k b 0 e η Q) w e η Q
|.for rv tg it b,w,e,η,Q=>W k it e η λv η=>∃S,ro rv v η=some S/\oO (λe η Q=>WS k b w e η Q) tg S (S.len η+1) 0 e η Q
|.ret x,w,e,η,Q=>W k x e η λv η=>Q (.ret v) e η
|.EX,w,e,η,Q=>Q (.ret .none) e η
|.cont,w,e,η,Q=>Q .cont e η
def WS(k:Nat):jn->Nat->Sl->AH->(Fl->Sl->AH->Prop)->Prop
|.nil,w,e,η,Q=>Q .next e η
|.cons s r,w,e,η,Q=>W1 k s w e η λf e η=>match f with
 |.next=>WS k r w e η Q
 |.cont=>Q .cont e η
 |.ret v=>Q (.ret v) e η
end
noncomputable abbrev Sm:=List (Str×Nat)
def wW(m:Sm):Bool:=m.all λp=>m.all λq=>!aj p.2 q.2 || sq p.1 q.1
def zS(T:Tab)(sc:Scope)(m:Sm)(x:Str):Option X:=(kindS sc x).bind λk=>match k with
|.local=>(ja m x).map .v
|.cell=>(ja m x).map .v
|.free=>(ja m x).map .v
|.globalImplicit=>(ja T.glob x).map .k
|_=>none
def wX(sc:Scope)(m:Sm):List Expr->Option (List Nat)
|[]=>some []
|e::r=>(BE e).bind λx=>cond (tH sc x) ((ja m x).bind λi=>(wX sc m r).map (i::·)) none
def vY(sc:Scope)(m:Sm)(e:Expr):Option Tg:=match BF e with
|some ts=>(wX sc m ts).map .many
|none=>(BE e).bind λx=>cond (tH sc x) ((ja m x).map .one) none
noncomputable def oi(f:Expr->Option X):List Expr->Option Xs
|[]=>some .nil
|e::r=>(f e).bind λx=>(oi f r).map (.cons x)
noncomputable def zT(f:Expr->Option X):List (Option Expr)->List Expr->Option Ps
|[],[]=>some .nil
|a::ks,b::vs=>a.bind λa=>(f a).bind λx=>(f b).bind λy=>(zT f ks vs).map (.cons x y)
|_,_=>none
noncomputable def JH:BoolOp->Bool
|.And=>true
|.Or=>false
def cBool(f:Expr->Option X)(op:BoolOp):List Expr->Option X
|[]=>none
|e::r=>match r with
 |[]=>f e
 |_::_=>(f e).bind λa=>(cBool f op r).map (.vX (JH op) a)
noncomputable def JJ(m:Sm):Nat:=m.foldr (λp n=>max (p.2+1) n) 0
def wY(sc:Scope)(m:Sm):Nat->List (Str×NameKind)->Option (Sm×List Nat×List Nat)
|_,[]=>some ([],[],[])
|b,p::r=>cond (decide (p.2=.local)) ((wY sc m (b+1) r).map λq=>((p.1,b)::q.1,b::q.2.1,q.2.2))
  (cond (decide (p.2=.free)) ((ja m p.1).bind λi=>(kindS sc p.1).bind λk=>cond (decide (k=.cell) || decide (k=.free)) ((wY sc m b r).map λq=>((p.1,i)::q.1,q.2.1,i::q.2.2)) none) (wY sc m b r))
abbrev Cf:=Scope->Sm->Expr->Option X
noncomputable def afU:List Comprehension->Option Comprehension
|[g]=>cond (decide (g.is_async=0)) (some g) none
|_=>none
def JK(f t:Cf)(sc:Scope)(m:Sm)(gs:List Comprehension)(jo:Scope)(mk:Sm->Tg->X->Xs->List Nat->List Nat->Option X):Option X:=(afU gs).bind λg=>
 cond (Ek jo && BD g.iter) ((f sc m g.iter).bind λit=>(wY sc m (JJ m) jo.names).bind λp=>cond (wW p.1) ((vY jo p.1 g.target).bind λtg=>(oi (t jo p.1) g.ifs).bind λifs=>mk p.1 tg it ifs p.2.2 p.2.1) none) none
def JL(f t:Cf)(sc:Scope)(m:Sm)(elt:Expr)(gs:List Comprehension)(jo:Scope):Option X:=JK f t sc m gs jo λm' tg it ifs fr ls=>(f jo m' elt).map λx=>.uN x tg it ifs fr ls
def JM(f t:Cf)(sc:Scope)(m:Sm)(key val:Expr)(gs:List Comprehension)(jo:Scope):Option X:=JK f t sc m gs jo λm' tg it ifs fr ls=>(f jo m' key).bind λa=>(f jo m' val).map λb=>.EW a b tg it ifs fr ls
noncomputable def xK:X->Option PV
|.k v=>some v
|_=>none
noncomputable def SW:UnaryOp->Bool
|.Not=>true
|_=>false
def sH(nm:Str)(n:Nat):Bool:=cond (sq nm sj || sq nm sr || sq nm tL || sq nm tN) (aj n 1) (cond (sq nm su) (aj n 0) (cond (sq nm oY) (aj n 1 || aj n 2) true))
def SY(T:Tab)(f:Cf)(sc:Scope)(m:Sm)(g:Expr)(args:List Expr)(pos:Pos):Option X:=match g with
|.Attribute o name apos=>cond (zH o && aj apos.endLine pos.line && aY args.length 20 && sH name args.length) ((f sc m o).bind λo=>(oi (f sc m) args).map λas=>.lP o name as) none
|.Name g _=>(zS T sc m g).bind λx=>(xK x).bind λfv=>cond (callee T fv) ((oi (f sc m) args).map λas=>.call fv as) none
|_=>none
def SZ(f:Expr->Option X)(o:X):Expr->Option X
|.Slice lo up st _=>cond lo.isNone (match up with
 |some e=>cond st.isNone ((f e).map (.take o)) none
 |none=>st.bind λe=>cond (Eo e) (some (.rev o)) none) none
|_=>none
def Tc(f:Cf)(sc:Scope)(m:Sm)(v i:Expr):Option X:=(f sc m v).bind λo=>cond (isSlice i) (SZ (f sc m) o i) ((f sc m i).map (.item o))
def cE(T:Tab)(f t:Cf)(sc:Scope)(m:Sm)(e:Expr):Option X:=match e with
|.Constant c _ _=>(Qx c).map .k
|.Name x _=>zS T sc m x
|.BoolOp op vs _=>cBool (f sc m) op vs
|.BinOp l op r _=>(f sc m l).bind λa=>(f sc m r).map λb=>.bin op a b
|.UnaryOp op x _=>cond (SW op) ((f sc m x).map .no) none
|.IfExp c a b _=>(t sc m c).bind λc=>(f sc m a).bind λa=>(f sc m b).map λb=>.sF c a b
|.Dict ks vs _=>cond ks.isEmpty (cond vs.isEmpty (some .jm) none) (cond (bA ks.length 15) ((zT (f sc m) ks vs).map .dict) none)
|.List es _=>(oi (f sc m) es).map .list
|.Tuple es _ _=>(oi (f sc m) es).map .tup
|.ListComp elt gs jo _=>JL f t sc m elt gs jo
|.DictComp k v gs jo _=>JM f t sc m k v gs jo
|.Compare l ops rs _=>(one ops).bind λop=>(one rs).bind λr=>cond (behindInMarks op r) none ((f sc m l).bind λa=>(f sc m r).map λb=>.cmp op a b)
|.Call g args ks pos=>cond ks.isEmpty (SY T f sc m g args pos) none
|.Attribute v a _=>cond (zH v) ((f sc m v).map (.attr · a)) none
|.Subscript v i _=>Tc f sc m v i
|_=>none
noncomputable def EY:Cf:=λJ J J=>none
def B9(T:Tab):Nat->Cf×Cf
|0=>(EY,EY)
|n+1=>(cE T (B9 T n).1 (B9 T n).2,(B9 T n).1)
abbrev EZ(T:Tab)(n:Nat):Cf:=(B9 T n).1
abbrev E9(T:Tab)(n:Nat):Cf:=(B9 T n).2
def yD(f:Cf)(sc:Scope)(m:Sm)(e:Expr):Option Tt:=match e with
|.Name x _=>cond (tH sc x) ((ja m x).map .loc) none
|.Attribute o a _=>(f sc m o).map (.mS · a)
|.Subscript o i _=>cond (isSlice i) none ((f sc m o).bind λa=>(f sc m i).map (.nG a))
|_=>none
def zU(f:Cf)(sc:Scope)(m:Sm):List Expr->Option (List Tt)
|[]=>some []
|e::r=>(yD f sc m e).bind λt=>(zU f sc m r).map (t::·)
def wZ(f t:Cf)(sc:Scope)(m:Sm)(v:Expr):Option X:=match v with
|.ListComp elt gs jo _=>JL f t sc m elt gs jo
|.DictComp k v gs jo _=>JM f t sc m k v gs jo
|.SetComp _ _ _ _=>none
|v=>f sc m v
def Td(f t:Cf)(sc:Scope)(m:Sm)(tg v:Expr):Option St:=(wZ f t sc m v).bind λx=>match BF tg with
|some ts=>cond (IW v) ((zU f sc m ts).map (.uO · x)) none
|none=>(yD f sc m tg).map (.asg · x)
def Te(T:Tab)(sc:Scope)(g:Str):Bool:=decide (kindS sc g=some .globalImplicit) && (((ja T.glob g).bind gV).any (zJ · "reversed"))
def Tf(T:Tab)(f:Cf)(b:Scope->Sm->List Stmt->Option jn)(sc:Scope)(m:Sm)(tg it:Expr)(bd:List Stmt):Option St:=(vY sc m tg).bind λtg=>(b sc m bd).bind λbd=>match IX it with
|some p=>cond (Te T sc p.1) ((f sc m p.2).map λx=>.for true tg x bd) none
|none=>cond (BD it) ((f sc m it).map λx=>.for false tg x bd) none
noncomputable def isCall:Expr->Bool
|.Call _ _ _ _=>true
|_=>false
noncomputable def Ti(f:Cf)(sc:Scope)(m:Sm)(e v:Expr):Option St:=match e with
|.Attribute o a _=>(f sc m o).bind λo=>(f sc m v).map (.aug o a)
|_=>none
def Tj(T:Tab)(f t:Cf)(b:Scope->Sm->List Stmt->Option jn)(sc:Scope)(m:Sm)(st:Stmt):Option St:=match st with
|.Expr e _=>cond (isCall e) ((f sc m e).map .expr) none
|.Assign ts v _=>(one ts).bind λtg=>Td f t sc m tg v
|.AugAssign tg op v _=>cond (Ei op) (Ti f sc m tg v) none
|.If c a o _=>(t sc m c).bind λc=>(b sc m a).bind λa=>(b sc m o).map (.ite c a)
|.While c a o _=>cond o.isEmpty ((t sc m c).bind λc=>(b sc m a).map (.qO c)) none
|.For tg it bd o _=>cond o.isEmpty (Tf T f b sc m tg it bd) none
|.Return e _=>match e with
 |some e=>(f sc m e).map .ret
 |none=>some .EX
|.Continue _=>some .cont
|_=>none
def zV(T:Tab):Nat->Scope->Sm->List Stmt->Option jn
|0,_,_,_=>none
|n+1,sc,m,b=>match b with
 |[]=>some .nil
 |st::r=>(Tj T (EZ T n) (E9 T n) (zV T n) sc m st).bind λs=>(zV T n sc m r).map (.cons s)
set_option backward.match.sparseCases true
section
open PySem.SeqAt
def yE(m:Sm)(sl:Sl):Vw:=λx=>(ja m x).bind (look sl)
structure At(w:World)(n:Nat)(X:Em)(η:AH)(sc:Scope)(m:Sm)(env:Env)(sl:Sl)(s:Shared)(A:Around):Prop where
 B:Base w X η s.heap
 F:Fr X sc env (yE m sl) s.heap
 R:uH A n
 o:wW m=true
abbrev Kx(w:World)(n:Nat)(X:Em)(sc:Scope)(m:Sm)(env:Env)(sl:Sl)(s:Shared)(A:Around)(P:PV->AH->Prop)(Q:Value->Shared->Prop):Prop:=∀{v s' Y p iY},Ext X s no Y s'->At w n Y iY sc m env sl s' A->VR Y v p->P p iY->Q v s'
abbrev Kt(w:World)(n:Nat)(X:Em)(sc:Scope)(m:Sm)(env:Env)(sl:Sl)(s:Shared)(A:Around)(P:Bool->AH->Prop)(Q:Bool->Shared->Prop):Prop:=∀{b s' Y iY},Ext X s no Y s'->At w n Y iY sc m env sl s' A->P b iY->Q b s'
abbrev Ks(w:World)(n:Nat)(X:Em)(sc:Scope)(m:Sm)(env:Env)(sl:Sl)(s:Shared)(A:Around)(P:List PV->AH->Prop)(Q:List Value->Shared->Prop):Prop:=∀{v s' Y p iY},Ext X s no Y s'->At w n Y iY sc m env sl s' A->jr Y v p->P p iY->Q v s'
structure kK(w:World)(n:Nat)(f:Cf):Prop where
 go:∀{sc m e x},f sc m e=some x->∀{env sl A X η s P Q E},At w n X η sc m env sl s A->W n x sl η P->Kx w n X sc m env sl s A P Q->wpAny (model pw w) A (eval e env) Q E s
 star:∀{sc m e x},f sc m e=some x->isStar e=false
def oj(w:World)(n:Nat)(f:Cf):Prop:=∀{sc m e x},f sc m e=some x->∀{env sl A X η s P R Q E},At w n X η sc m env sl s A->W n x sl η P->(∀{u η},P u η->∃b,mP u η=some b/\R b η)->Kt w n X sc m env sl s A R Q->wpAny (model pw w) A (isTrue e env (eval e env)) Q E s
section
variable{w:World}{f t:Cf}{sc:Scope}{m:Sm}{env:Env}{sl:Sl}{X Y:Em}{iY:AH}{s s':Shared}{P:PV->AH->Prop}{Q:Value->Shared->Prop}{E:Value->Shared->Prop}{x:Internal.X}{e e':Expr}{es:List Expr}{pos:Pos}
theorem At.next(C:At w n X η sc m env sl s A)(e:Ext X s no Y s')(B:Base w Y iY s'.heap):At w n Y iY sc m env sl s' A:=⟨B,C.F.ext e,C.R,C.o⟩
theorem At.tok{t:Nat}(C:At w n X η sc m env sl s A):At w n X η sc m env sl { s with toks:=t } A:=⟨C.B,C.F,C.R,C.o⟩
theorem wx{y:Internal.X}(e:y=x)(h:W n x sl η P):W n y sl η P:=e▸h
theorem afV{c:Const}{kk}(h:(Qx c).map Internal.X.k=some x)(C:At w n X η sc m env sl s A)(hw:W n x sl η P)(k:Kx w n X sc m env sl s A P Q):wpAny (model pw w) A (eval (.Constant c kk pos) env) Q E s:=jq h λp h e=>by
 have hw:P p η:=wx e hw
 cases c with
|none=>obtain rfl:=ai h;exact wpAny_Constant_none (k (.refl ..) C .none hw)
|bool b=>obtain rfl:=ai h;exact wpAny_Constant_bool (k (.refl ..) C (.bool b) hw)
|int i=>obtain rfl:=ai h;exact wpAny_Constant_int (k (.tok ..) C.tok (.int _ _) hw)
|str x=>obtain rfl:=ai h;exact wpAny_Constant_str (k (.tok ..) C.tok (.str _ _) hw)
|_=>exact xn h
theorem JN(G:Good w tab){y:Str}(h:zS tab sc m y=some x)(C:At w n X η sc m env sl s A)(hw:W n x sl η P)(k:Kx w n X sc m env sl s A P Q):wpAny (model pw w) A (eval (.Name y pos) env) Q E s:=jg h λkd hk h=>by
 have F:=C.F
 have sv:(ja m y).map Internal.X.v=some x->∃v,yE m sl y=some v/\P v η:=λh=>jq h λi hi e=>(show W n (.v i) sl η P from (wx e hw :)).elim λv z=>⟨v,(congrArg (·.bind (look sl)) hi).trans z.1,z.2⟩
 have kk:=F.kd hk
 cases kd with
|«local»=>exact (sv h).elim λp z=>F.ns.elim λm z2=>(z2.2 hk z.1).elim λv z3=>wpAny_Name (wpAny_loadName_local F.k (kk.elim id λy=>nomatch y.1) z2.1 z3.1 (k (.refl ..) C z3.2 z.2)) (F.db hk).1
|cell=>exact (sv h).elim λp z=>(F.cv (.inl hk) z.1).elim λc y=>y.elim λv y=>wpAny_Name (wpAny_loadName_cell F.k (kk.elim id And.right) y.1 y.2.1 (k (.refl ..) C y.2.2 z.2)) (F.db hk).1
|free=>exact (sv h).elim λp z=>(F.cv (.inr hk) z.1).elim λc y=>y.elim λv y=>wpAny_Name (kk.elim (λe=>wpAny_loadName_free F.k e y.1 y.2.1 (k (.refl ..) C y.2.2 z.2) (F.db hk).2) λe=>wpAny_loadName_cell F.k e.2 y.1 y.2.1 (k (.refl ..) C y.2.2 z.2)) (F.db hk).1
|globalImplicit=>
  refine jq h λp h e=>?_
  have hw:P p η:=wx e hw
  obtain ⟨v,r,mg,mb,hg,hb,q⟩:=G.t h C.B
  rw [<-F.g] at hg
  rw [<-F.b] at hb
  have fin:=k (.refl ..) C r hw
  exact Name_function_global F.k (kk.elim id λy=>nomatch y.1) (q.elim (λq=>loadGlobal_global hg q fin) λq=>loadGlobal_builtin hg q.1 hb q.2 fin) (F.db hk).1
|_=>exact xn h
theorem afW{l r:Expr}{op:Operator}(H:kK w n f)(h:((f sc m l).bind λa=>(f sc m r).map λb=>.bin op a b)=some x)(C:At w n X η sc m env sl s A)(hw:W n x sl η P)(k:Kx w n X sc m env sl s A P Q):wpAny (model pw w) A (eval (.BinOp l op r pos) env) Q E s:=
 jg h λa h1 h=>jq h λb h2 e=>wpAny_BinOp (H.go h1 C (wx e hw :) λe1 C1 r1 hw=>H.go h2 C1 hw λe2 C2 r2 hw=>hw.elim λv z=>z.elim λjl z=>afq z.1 (r1.mono e2.le) r2 C2.B λg=>g.casesOn λe3 B3 r3=>k ((e1.trans e2).trans e3) (C2.next e3 B3) r3 z.2)
theorem afX{l r:Expr}{op:CmpOp}(H:kK w n f)(hm:behindInMarks op r=false)(h:((f sc m l).bind λa=>(f sc m r).map λb=>.cmp op a b)=some x)(C:At w n X η sc m env sl s A)(hw:W n x sl η P)(k:Kx w n X sc m env sl s A P Q):wpAny (model pw w) A (eval (.Compare l [op] [r] pos) env) Q E s:=
 jg h λa h1 h=>jq h λb h2 e=>wpAny_Compare1 (H.go h1 C (wx e hw :) λe1 C1 r1 hw=>H.go h2 C1 hw λe2 C2 r2 hw=>hw.elim λc z=>Rh z.1 (r1.mono e2.le) r2 C2.B C2.R.cm λt=>k ((e1.trans e2).trans (.tok ..)) C2.tok (.bool c) z.2) hm
theorem afY{y:Expr}(H:kK w n f)(h:(f sc m y).map .no=some x)(C:At w n X η sc m env sl s A)(hw:W n x sl η P)(k:Kx w n X sc m env sl s A P Q):wpAny (model pw w) A (eval (.UnaryOp .Not y pos) env) Q E s:=
 jq h λa h e=>wpAny_UnaryOp (H.go h C (wx e hw :) λe1 C1 r1 hw=>hw.elim λb z=>not_value (Je z.1 C1.B r1 λt=>k (e1.trans (.tok ..)) C1.tok (.bool _) z.2))
theorem afZ{c a b:Expr}(H:kK w n f)(T:oj w n t)(h:((t sc m c).bind λc=>(f sc m a).bind λa=>(f sc m b).map λb=>.sF c a b)=some x)(C:At w n X η sc m env sl s A)(hw:W n x sl η P)(k:Kx w n X sc m env sl s A P Q):wpAny (model pw w) A (eval (.IfExp c a b pos) env) Q E s:=
 jg h λc' h1 h=>jg h λa' h2 h=>jq h λb' h3 e=>wpAny_IfExp (T h1 C (wx e hw :) id λ{b _ _ _} e1 C1 hw=>by
  cases b
  ·exact H.go h3 C1 (hw.2 rfl) λe2=>k (e1.trans e2)
  ·exact H.go h2 C1 (hw.1 rfl) λe2=>k (e1.trans e2))
theorem zW(he:isStar e=false):starEach (e::es) env=(false,eval e env)::starEach es env:=by
 induction e using PySem.Expr.casesOn<;>first|rfl|exact xg he
theorem Fa(H:kK w n f):∀{es:List Expr} {as:Xs} {X:Em} {η:AH} {s:Shared} {P:List PV->AH->Prop} {Q:List Value->Shared->Prop},oi (f sc m) es=some as->At w n X η sc m env sl s A->WL n as sl η P->Ks w n X sc m env sl s A P Q->wpAny (model pw w) A (spliced (backTo pos (starEach es env))) Q E s
|[],as,X,η,s,P,Q,h,C,hw,k=>by
  obtain rfl:=ai h
  exact wpAny_items_nil (k (.refl ..) C .nil hw)
|e::es,as,X,η,s,P,Q,h,C,hw,k=>jg h λx h1 h=>jq h λas' h2 e'=>wpAny_items_cons (H.go h1 C (show WL n (.cons x as') sl η P from e'▸hw) λe1 C1 r1 hw=>Fa H h2 C1 hw λe2 C2 r2 hw=>k (e1.trans e2) C2 (.cons (r1.mono e2.le) r2) hw) (zW (H.star h1))
theorem af0(H:kK w n f)(h:(oi (f sc m) es).map .list=some x)(C:At w n X η sc m env sl s A)(hw:W n x sl η P)(k:Kx w n X sc m env sl s A P Q):wpAny (model pw w) A (eval (.List es pos) env) Q E s:=
 jq h λas h e=>wpAny_List (Fa H h C (wx e hw :) λe1 C1 rs hw=>⟨ah (rs.length▸ql hw.1) (dc rfl),(BK (n:=0) (t:=_) C1.B rs).casesOn λe2 B2 r2=>k (e1.trans e2) (C1.next e2 B2) r2 hw.2⟩)
theorem af1{kk:Nat}(H:kK w n f)(h:(oi (f sc m) es).map .tup=some x)(C:At w n X η sc m env sl s A)(hw:W n x sl η P)(k:Kx w n X sc m env sl s A P Q):wpAny (model pw w) A (eval (.Tuple es kk pos) env) Q E s:=
 jq h λas h e=>wpAny_Tuple (Fa H h C (wx e hw :) λe1 C1 rs hw=>⟨ah (rs.length▸ql hw.1) (dc rfl),(afd (n:=0) (t:=_) C1.B rs).casesOn λe2 B2 r2=>k (e1.trans e2) (C1.next e2 B2) r2 hw.2⟩)
theorem JP(H:kK w n f)(op:BoolOp):∀{es:List Expr} {x:Internal.X} {X:Em} {η:AH} {s:Shared},cBool (f sc m) op es=some x->At w n X η sc m env sl s A->W n x sl η P->Kx w n X sc m env sl s A P Q->wpAny (model pw w) A (boolOp pos op (evalEach es env)) Q E s
|[],_,_,_,_,h,_,_,_=>xn h
|[e],x,X,η,s,h,C,hw,k=>H.go h C hw k
|e::g::es,x,X,η,s,h,C,hw,k=>jg h λa h1 h=>jq h λb h2 e'=>by
  show wpAny _ A (do
   let v <-eval e env
   standAt pos
   let t <-holding [v] (truthy v)
   match op,t with
  |.And,false|.Or,true=>pure v
  |_,_=>boolOp pos op (evalEach (g::es) env)) _ _ s
  refine wpAny_bind (H.go h1 C (wx e' hw :) λe1 C1 r1 hw=>hw.elim λb z=>wpAny_bind (wpAny_standAt (wpAny_bind (wpAny_holding (Je z.1 C1.B r1 λt=>?_)))))
  have e2:=e1.trans (.tok _ _ _ t)
  cases op<;>cases b
  ·exact wpAny_pure (k e2 C1.tok r1 (z.2.2 rfl))
  ·exact JP H .And h2 C1.tok (z.2.1 rfl) λe3=>k (e2.trans e3)
  ·exact JP H .Or h2 C1.tok (z.2.1 rfl) λe3=>k (e2.trans e3)
  ·exact wpAny_pure (k e2 C1.tok r1 (z.2.2 rfl))
theorem Tn{o:Expr}{whole:Sem Value}(h:zH o=true):attributeBase o name env whole=whole:=by
 induction o using PySem.Expr.casesOn with
|Call g as ks p=>
  induction g using PySem.Expr.casesOn with
 |Name id q=>
   induction as using List.casesOn with
  |cons _ _=>rfl
  |nil=>induction ks using List.casesOn with
   |cons _ _=>rfl
   |nil=>
     have h:(id != ("super":Str))=true:=h
     unfold attributeBase
     dsimp only
     rw [h]
     rfl
 |_=>rfl
|_=>rfl
theorem af2{v:Expr}{a:Str}(G:Good w tab)(H:kK w n f)(hb:zH v=true)(h:(f sc m v).map (.attr · a)=some x)(C:At w n X η sc m env sl s A)(hw:W n x sl η P)(k:Kx w n X sc m env sl s A P Q):wpAny (model pw w) A (eval (.Attribute v a pos) env) Q E s:=
 jq h λo h e=>Attribute_any_ (H.go h C (wx e hw :) λe1 C1 r1 hw=>hw.elim λu z=>Rm G.f z.1 r1 C1.B λt r=>k (e1.trans (.tok ..)) C1.tok r z.2) (by
  show (do
   let o <-attributeBase v a env (eval v env)
   standAt pos.atName
   let r <-holding [o] (getAttr o a true)
   letTemporaryGo v o r
   pure r)=_
  rw [Tn hb])
theorem af3(items:List Value)(b:Nat):slicePick items.toArray none (some (b:Int)) none=(items.take b).toArray:=by
 by_cases hb:b<=items.toArray.size
 ·exact slicePick_upto items.toArray b hb
 ·have e:sliceBounds none (some (b:Int)) none items.toArray.size=(((0:Nat):Int),(items.toArray.size:Int),1):=by
   simp only [sliceBounds,Option.getD_none]
   have h2:¬ ((b:Int)<0):=aaH
   simp only [h2,if_false,show (1:Int)>0 by decide,if_true]
   congr 1
   congr 1;exact aaI hb
  unfold slicePick
  rw [e]
  simp only [sliceRange_one,pick_run]
  rw [List.drop_zero,iw (by simp),iw (Nat.le_of_not_le hb)]
theorem jr.take{ps:List PV}:∀{vs:List Value} (k:Nat),jr X vs ps->jr X (vs.take k) (ps.take k):=by
 induction ps with
|nil=>exact λk rs=>oM rs (by rw [List.take_nil,List.take_nil];exact .nil)
|cons p ps ih=>exact λk rs=>match k with
 |0=>.nil
 |k+1=>mK rs λv vs r rs=>.cons r (ih k rs)
theorem jr.reverse{ps:List PV}:∀{vs:List Value},jr X vs ps->jr X vs.reverse ps.reverse:=by
 induction ps with
|nil=>exact λrs=>oM rs .nil
|cons p ps ih=>exact λrs=>mK rs λv vs r rs=>by rw [d9,d9];exact (ih rs).append (.cons r .nil)
theorem af4{lo up st:Option Expr}{p:Pos}{v u:Value}:∃ops,subscripted (.Slice lo up st p) false v u=operate ops (getItem v u):=by
 cases st<;>exact ⟨_,rfl⟩
theorem To{lo up st:Option Expr}{p:Pos}{l sl:Addr}{vs:List Value}{ps:List PV}{vl vu Tp:Value}{a b c:Option Int}(B:Base w X η s.heap)(hl:s.heap.IsList l vs.toArray)(hs:s.heap.IsSliceOf sl vl vu Tp)(pl:IsPart vl a)(pu:IsPart vu b)(pt:IsPart Tp c)(h0:c≠some 0)(hz:kB vs.length=true)(hp:slicePick vs.toArray a b c=us.toArray)(rs:jr X us ps){z:PV×AH}(e:tF η ps=z)
  (k:∀{Y h' v},Ext X s no Y { s with heap:=h' }->Base w Y z.2 h'->VR Y v z.1->Q v { s with heap:=h' }):wpAny (model pw w) A (subscriptTail value (.Slice lo up st p) (.ref l) (.ref sl)) Q E s:=
 BR ⟨_,_,list_getitem_lookup,hl.typeIs⟩ af4 (wpAny_getItem_list_slice hl hs pl pu pt h0 (hp▸(BK (n:=0) (t:=s.toks) B rs).casesOn λe1 B r=>k e1 (e▸B) (e▸r)) (ah (ql hz) (dc rfl)))
theorem af5{o kv:PV}{z:PV×AH}{G:Prop}(h:En o kv η=some z)(k:∀(j:Nat) l,kv=.int j->(o=.fl l\/nZ o η=some l)->kB l.length=true->tF η (l.take j)=z->G):G:=jg h λj e h=>by
 have go:∀{l},o=.fl l\/nZ o η=some l->cond (kB l.length) (some (tF η (l.take j))) none=some z->G:=λho h=>xc h λc h=>k j _ (vL e).1 ho c (ai h)
 cases o with
|fl l=>exact go (.inl rfl) h
|_=>exact jg h λl e h=>go (.inr e) h
theorem af6{v:Expr}{p:Pos}{o:Internal.X}(H:kK w n f)(h1:f sc m v=some o)(h:(f sc m e).map (.take o)=some x)(C:At w n X η sc m env sl s A)(hw:W n x sl η P)(k:Kx w n X sc m env sl s A P Q):wpAny (model pw w) A (eval (.Subscript v (.Slice none (some e) none p) pos) env) Q E s:=
 jq h λex h2 e'=>Subscript_ (H.go h1 C (wx e' hw :) λ{t7 s₁ Y sI ji} e1 C1 r1 hw=>by
  refine wpAny_Slice ?_
  rw [evalPart_none]
  refine wpAny_pure ?_
  rw [evalPart_some]
  refine H.go h2 C1 hw λ{Tq lG Z af7 jh} e2 C2 r2 hw=>wpAny_pure (hw.elim λu z=>z.elim λjl z=>af5 z.1 λj l e3 ho c e4=>?_)
  refine vI (v:=Tq) (e3▸r2) λt=>?_
  have fin:∀{a vs},lG.heap.IsList a vs.toArray->jr Z vs l->wpAny (model pw w) A (subscriptTail v (.Slice none (some e) none p) (.ref a) (.ref lG.heap.objs.size)) Q E { lG with heap:=lG.heap.push { cls:=.type "slice",data:=.fields #[.none,.int j t,.none] } }:=λ{a vs} hg rs=>
   To (s:={ lG with heap:=lG.heap.push { cls:=.type "slice",data:=.fields #[.none,.int j t,.none] } }) (C2.B.push _) (hg.push _) (iz ..) .none (.int j t) .none (by simp) (rs.length▸c) (af3 ..) (rs.take j) e4 λe5 B5 r5=>
    have e6:=(e1.trans e2).trans ((Ext.push Z lG no _ lG.toks).trans e5)
    k e6 (C.next e6 B5) r5 z.2
  have r1:=r1.mono e2.le
  exact ho.elim (λho=>vF (ho▸r1:VR Z t7 (.fl l)) λa o vs m e0 ec ed rs=>fin ⟨_,C2.B.fz e0,ec,_,ed⟩ rs) λho=>wQ C2.B ho r1 λa vs n e rs=>fin (oE e) rs)
theorem af8{P:Expr->Prop}(h:QD e=true)(k:∀a b,P (.Constant (.int 1) a b)):P e:=by
 induction e using PySem.Expr.casesOn with
|Constant c a b=>induction c using Const.casesOn with
 |int i=>exact of_decide_eq_true h▸k a b
 |_=>exact xf h
|_=>exact xf h
theorem af9{P:Expr->Prop}(h:Eo e=true)(k:∀a b c,P (.UnaryOp .USub (.Constant (.int 1) a b) c)):P e:=by
 induction e using PySem.Expr.casesOn with
|UnaryOp op x q=>
  refine xb h λh1 h2=>af8 (P:=λx=>P (.UnaryOp op x q)) h2 λa b=>?_
  clear h
  induction op using PySem.UnaryOp.casesOn with
 |USub=>exact k a b q
 |_=>exact xf h1
|_=>exact xf h
theorem aga{v:Expr}{p:Pos}{o:Internal.X}(H:kK w n f)(h1:f sc m v=some o)(hn:Eo e=true)(C:At w n X η sc m env sl s A)(hw:W n (.rev o) sl η P)(k:Kx w n X sc m env sl s A P Q):wpAny (model pw w) A (eval (.Subscript v (.Slice none none (some e) p) pos) env) Q E s:=
 Subscript_ (H.go h1 C hw λ{t7 s₁ Y sI ji} e1 C1 r1 hw=>by
  refine wpAny_Slice ?_
  rw [evalPart_none]
  refine wpAny_pure (wpAny_pure ?_)
  rw [evalPart_some]
  refine af9 (P:=λe=>wpAny (model pw w) A (eval e env) _ E s₁) hn λa b c=>?_
  refine wpAny_UnaryOp (wpAny_Constant_int (PySem.P.neg_int ?_))
  refine hw.elim λu z=>z.elim λjl z=>jg z.1 λl ho h=>xc h λc2 h=>wQ C1.B ho r1 λa vs n e rs=>?_
  refine To (s:={ s₁ with heap:=s₁.heap.push { cls:=.type "slice",data:=.fields #[.none,.none,.int (-1) (s₁.toks+1)] },toks:=s₁.toks+1+1 }) (C1.B.push _) ((oE e).push _) (iz ..) .none .none (.int _ _) (dc rfl) (rs.length▸c2) (krv_pick _) rs.reverse (ai h) λe5 B5 r5=>?_
  have e6:=e1.trans ((Ext.push Y s₁ no _ _).trans e5)
  exact k e6 (C.next e6 B5) r5 z.2)
theorem agb{v i:Expr}{o:Internal.X}(G:Good w tab)(H:kK w n f)(hs:isSlice i=false)(h1:f sc m v=some o)(h:(f sc m i).map (.item o)=some x)(C:At w n X η sc m env sl s A)(hw:W n x sl η P)(k:Kx w n X sc m env sl s A P Q):wpAny (model pw w) A (eval (.Subscript v i pos) env) Q E s:=
 jq h λj h2 e=>Subscript_ (H.go h1 C (wx e hw :) λe1 C1 r1 hw=>H.go h2 C1 hw λe2 C2 r2 hw=>hw.elim λu z=>afF G.d hs z.1 (r1.mono e2.le) r2 C2.B λt r=>k ((e1.trans e2).trans (.tok ..)) C2.tok r z.2)
theorem agc{f:Expr->Option Internal.X}{o:Internal.X}{P:Expr->Prop}(h:SZ f o e=some x)(kt:∀e p,(f e).map (.take o)=some x->P (.Slice none (some e) none p))(kr:∀e p,Eo e=true->.rev o=x->P (.Slice none none (some e) p)):P e:=by
 induction e using PySem.Expr.casesOn with
|Slice lo up st p=>
  refine xc h λc h=>(ek.mp c).symm▸?_
  induction up using Option.casesOn with
 |some e=>exact xc h λc h=>(ek.mp c).symm▸kt e p h
 |none=>exact jg h λe e1 h=>xc h λc h=>e1▸kr e p c (ai h)
|_=>exact xn h
theorem agd{v i:Expr}(G:Good w tab)(H:kK w n f)(h:Tc f sc m v i=some x)(C:At w n X η sc m env sl s A)(hw:W n x sl η P)(k:Kx w n X sc m env sl s A P Q):wpAny (model pw w) A (eval (.Subscript v i pos) env) Q E s:=jg h λo h1 h=>by
 generalize hs:isSlice i=b at h
 cases b with
|false=>exact agb G H hs h1 h C hw k
|true=>exact agc (P:=λi=>wpAny (model pw w) A (eval (.Subscript v i pos) env) Q E s) h (λe p h=>af6 H h1 h C hw k) λe p hn e'=>aga H h1 hn C (wx e' hw) k
end
end
section
open PySem.SeqAt
section
variable{w:World}{f t:Cf}{sc:Scope}{m:Sm}{env:Env}{sl:Sl}{X Y:Em}{iY:AH}{s s' s₁:Shared}{P:PV->AH->Prop}{Q:Value->Shared->Prop}{E:Value->Shared->Prop}{x:Internal.X}{e:Expr}{es args:List Expr}{as:Xs}{pos:Pos}{i:Nat}{v u:Value}{p q:PV}
theorem age{kvs:List (Str×Value)}{k:Str}(nd:(kvs.map (·.1)).Nodup):((stored kvs k v).map (·.1)).Nodup:=by
 unfold stored
 by_cases h:(kvs.any λkv=>decide (kv.1=k))=true
 ·rw [if_pos h,eX,show ((λx=>x.1)∘λ(kv:Str×Value)=>if kv.1=k then (kv.1,v) else kv)=λkv=>kv.1 from funext λkv=>by by_cases q:kv.1=k<;>simp [q]]
  exact nd
 ·rw [if_neg h,aV,cA]
  exact ⟨nd,bw.mpr ⟨aU,.nil⟩,λa ha b hb e=>(aQ.mp ha).elim λkv z=>h (c9.mpr ⟨kv,z.1,decide_eq_true (z.2.trans (e.trans (aJ.mp hb)))⟩)⟩
theorem Tr{kps:List (Str×PV)}:∀{more kvs:List (Str×Value)} {l:List (Str×PV)},KR X kvs l->(kvs.map (·.1)).Nodup->KR X more kps->KR X (merged kvs more) (wM l kps):=by
 induction kps with
|nil=>exact λa nd b=>Bv b a
|cons p kps ih=>exact λ{_ _ l} a nd b=>vt b λv us rv rs=>(QN l p.1 p.2▸ih (Jc rv a nd) (age nd) rs :)
theorem Tv{d:Addr}{t:Nat}{kvs:List (Str×Value)}{l:List (Str×PV)}(E:Ext X s no Y s₁)(B:Base w Y η s₁.heap)(hd:s.heap.get? d=none)(off:¬ Y.kH d)(hs:bY d s₁.heap h')(D:h'.DictOf (strKind pw w) d kvs)(r:KR Y kvs l):
  GE w X s (η.add (.sd l 0)) (.ref η.reg η.iZ) (.ref d) { s₁ with heap:=h',toks:=t }:=
 D.dictAt.elim λe D'=>made (d:=none) (e:=some e) E B (λ{c} z=>z.elim (λz=>z▸⟨hd,off,D.elim λo z=>z.elim λJ z=>z.elim λJ z=>⟨o,z.1⟩⟩) xn) (λz=>xn z) (λne h=>(hs.2 _ λz=>ne (.inl z)).trans h) (λJ=>⟨l,0,rfl⟩) ⟨kvs,e,if_pos rfl,D',r.mono B.zC⟩
def yF(env:Env)(pos:Pos):List (Option Expr)->List Expr->List (Sem Value×Sem Value)
|some k::ks,v::vs=>(eval k env,do let x <-eval v env;standAt pos;pure x)::yF env pos ks vs
|_,_=>[]
theorem Tw{g:Expr->Option Internal.X}{M:List (Option Expr)->List Expr->Ps->Prop}(z:M [] [] .nil)(c:∀{a b ks es x y ps},g a=some x->g b=some y->M ks es ps->M (some a::ks) (b::es) (.cons x y ps)):∀{es:List Expr} {ps:Ps},zT g ks es=some ps->M ks es ps:=by
 induction ks with
|nil=>exact λ{es} _ h=>match es with
 |[]=>ai h▸z
 |_::_=>xn h
|cons o ks ih=>exact λ{es} _ h=>match es with
 |[]=>by cases o<;>exact xn h
 |b::es=>jg h λa e h=>jg h λx h1 h=>jg h λy h2 h=>jq h λps h3 e'=>e▸e'▸c h1 h2 (ih h3)
theorem agf{g:Expr->Option Internal.X}{ps:Ps}(h:zT g ks es=some ps):(evalEachOpt ks env).zip ((evalEach es env).map λv=>do let x <-v;standAt pos;pure x)=(yF env pos ks es).map (λp=>(some p.1,p.2))/\(yF env pos ks es).length=ks.length:=
 Tw (M:=λks es J=>(evalEachOpt ks env).zip ((evalEach es env).map λv=>do let x <-v;standAt pos;pure x)=(yF env pos ks es).map (λp=>(some p.1,p.2))/\(yF env pos ks es).length=ks.length) ⟨rfl,rfl⟩ (λJ J z=>⟨congrArg (_::·) z.1,congrArg (·+1) z.2⟩) h
theorem agg(H:kK w n f){ps:Ps}(h:zT (f sc m) ks es=some ps):∀{X:Em} {η:AH} {s:Shared} {acc:List (Str×PV)} {P:List (Str×PV)->AH->Prop} {Q:List (Value×Value)->Shared->Prop},At w n X η sc m env sl s A->WP n ps sl η acc P->
  (∀{vs s' Y kvs kps iY},Ext X s no Y s'->At w n Y iY sc m env sl s' A->Carries (strKind pw w) vs kvs->KR Y kvs kps->P (wM acc kps) iY->Q vs s')->wpAny (model pw w) A (evalPairs (yF env pos ks es)) Q E s:=by
 refine Tw (M:=λks es ps=>∀{X:Em} {η:AH} {s:Shared} {acc:List (Str×PV)} {P:List (Str×PV)->AH->Prop} {Q:List (Value×Value)->Shared->Prop},At w n X η sc m env sl s A->WP n ps sl η acc P->
  (∀{vs s' Y kvs kps iY},Ext X s no Y s'->At w n Y iY sc m env sl s' A->Carries (strKind pw w) vs kvs->KR Y kvs kps->P (wM acc kps) iY->Q vs s')->wpAny (model pw w) A (evalPairs (yF env pos ks es)) Q E s) ?_ ?_ h
 ·exact λC hw k=>wpAny_pure (k (kvs:=[]) (kps:=[]) (.refl ..) C trivial .nil hw)
 ·exact @λJ J J J J J J h1 h2 ih J J J J J J C hw k=>wpAny_bind (H.go h1 C hw λ{kv s1 _ _ _} e1 C1 r1 hw=>hw.elim λtx z=>wpAny_bind (wpAny_holding (wpAny_bind (H.go h2 C1 z.2 λ{vv s2 _ vp _} e2 C2 r2 hw=>wpAny_bind (wpAny_standAt (wpAny_pure (wpAny_bind (wpAny_holding (ih C2 hw λ{vs s3 Z kvs kps _} e3 C3 c3 r3 hw=>wpAny_pure (k (kvs:=(tx,vv)::kvs) (kps:=(tx,vp)::kps) ((e1.trans e2).trans e3) C3 ⟨vS (v:=kv) (z.1▸r1) λt=>strKind_is pw w tx t,rfl,c3⟩ (.cons (r2.mono e3.le) r3) hw))))))))))
theorem agh(H:kK w n f)(ne:ks.isEmpty=false)(hn:bA ks.length 15=true)(h:(zT (f sc m) ks es).map .dict=some x)(C:At w n X η sc m env sl s A)(hw:W n x sl η P)(k:Kx w n X sc m env sl s A P Q):wpAny (model pw w) A (eval (.Dict ks es pos) env) Q E s:=
 jq h λps h e=>by
  have z:=agf (env:=env) (pos:=pos) h
  have off:¬ X.kH s.heap.objs.size:=C.B.off (ak _)
  have hg:(s.heap.push zB).get? s.heap.objs.size=some zB:=bK _ rfl
  refine wpAny_Dict_pairs (knd:=strKind pw w) z.1 (λe=>?_) (by rw [z.2];exact b5 hn) (agg H h (C.next (.push (t:=s.toks) ..) (C.B.push _)) (wx e hw :) λ{vs s1 Y kvs kps _} e1 C1 c1 r1 hw=>?_)
  ·rw [iA (z.2.symm.trans (congrArg gf e))] at ne
   exact nomatch ne
  ·have hD:=e1.keep _ _ hg off id
   refine ⟨kvs,c1,(yo (knd:=strKind pw w) hD).dictOf,λh' D Ca=>(Tv (l:=wM [] kps) ((Ext.push X s no _ s.toks).trans e1) C1.B (bJ (ak _)) (e1.off hg off) Ca D (Tr (l:=[]) .nil .nil r1)).casesOn λe2 B2 r2=>k e2 (C.next e2 B2) r2 hw⟩
theorem JQ{g:Expr->Option Internal.X}(hs:∀{e x},g e=some x->isStar e=false):∀{es:List Expr} {as:Xs},oi g es=some as->(backTo pos (starEach es env)).any (·.1)=false
|[],_,_=>rfl
|e::es,_,h=>jg h λx h1 h=>jq h λas h2 J=>by
  rw [zW (hs h1)]
  exact JQ hs h2
theorem Fb{fv:Value}{first:List Value}{R:List PV->AH->Prop}(hf:keepIn (Kf w.params) fv=true\/(∃id,fv=.builtin id)\/∃id,fv=.type id)(H:kK w n f)(h:oi (f sc m) args=some as)(C:At w n X η sc m env sl s A)(hw:WL n as sl η R)
  (k:∀{us s' Y ps iY},Ext X s no Y s'->At w n Y iY sc m env sl s' A->jr Y us ps->R ps iY->wpAny (model pw w) A (call fv (first++us)) Q E s'):wpAny (model pw w) A (callWith pos fv first (backTo pos (starEach args env)) []) Q E s:=by
 have ha:=JQ (env:=env) (pos:=pos) H.star h
 have ev:wpAny (model pw w) A (evalArgs fv true (backTo pos (starEach args env)) []) (λa s₁=>(Kf w.params).In s₁.heap/\wpAny (model pw w) A (call fv (first++a.pos) a.kw) Q E s₁) E s:=by
  cases args with
 |nil=>
   obtain rfl:=ai h
   exact evalArgs_nil3 ⟨C.B.kf,k (.refl ..) C .nil hw⟩
 |cons e rest=>
   have h0:=Fa (E:=E) (pos:=pos) (Q:=λus s₁=>(Kf w.params).In s₁.heap/\wpAny (model pw w) A (call fv (first++us)) Q E s₁) H h C hw λe1 C1 rs hw=>⟨C1.B.kf,k e1 C1 rs hw⟩
   refine jg h λx h1 J=>?_
   rw [zW (H.star h1)] at h0 ⊢
   exact evalArgs_plain h0
 refine hf.elim (λhk=>callWith_of (by rw [ha];rfl) (keeps_K hk) ev) λhf=>?_
 have ev:=wpAny_mono ev (λJ J z=>z.2) λJ J x=>x
 exact hf.elim (λz=>z.elim λid e=>(by subst e;exact callWith_builtin ha ev)) λz=>z.elim λid e=>by subst e;exact PySem.callWith_type ha ev
theorem arg1{R:List PV->AH->Prop}{G:List (Bool×Sem Value)->Prop}(H:kK w n f)(hl:aj args.length 1=true)(h:oi (f sc m) args=some as)(C:At w n X η sc m env sl s A)(hw:WL n as sl η R)
  (k:∀e,(∀{Q E:Value->Shared->Prop},(∀{v s' Y p iY},Ext X s no Y s'->At w n Y iY sc m env sl s' A->VR Y v p->R [p] iY->Q v s')->wpAny (model pw w) A (eval e env) Q E s)->G [(false,eval e env)]):G (backTo pos (starEach args env)):=by
 cases args with
|nil=>exact xf hl
|cons e rest=>cases rest with
 |cons _ _=>exact xf hl
 |nil=>
   refine jg h λx h1 h=>?_
   rw [zW (H.star h1)]
   exact k e λk=>H.go h1 C (show WL n (.cons x .nil) sl η R from ai h▸hw) k
theorem arg2{R:List PV->AH->Prop}{G:List (Bool×Sem Value)->Prop}(H:kK w n f)(hl:aj args.length 2=true)(h:oi (f sc m) args=some as)(C:At w n X η sc m env sl s A)(hw:WL n as sl η R)
  (k:∀e e',(∀{Q:Value->Value->Shared->Prop} {E:Value->Shared->Prop},(∀{v v' s' Y p p' iY},Ext X s no Y s'->At w n Y iY sc m env sl s' A->VR Y v p->VR Y v' p'->R [p,p'] iY->Q v v' s')->wpAny (model pw w) A (eval e env) (λv s₁=>wpAny (model pw w) A (eval e' env) (Q v) E s₁) E s)->G [(false,eval e env),(false,eval e' env)]):G (backTo pos (starEach args env)):=by
 cases args with
|nil=>exact xf hl
|cons e rest=>cases rest with
 |nil=>exact xf hl
 |cons e' rest=>cases rest with
  |cons _ _=>exact xf hl
  |nil=>
    refine jg h λx h1 h=>jq h λas' h h'=>jg h λy h2 h=>?_
    rw [zW (H.star h1),zW (H.star h2)]
    exact k e e' λk=>H.go h1 C (show WL n (.cons x (.cons y .nil)) sl η R from ((congrArg (Xs.cons x) (ai h)).trans h':Xs.cons x (Xs.cons y .nil)=as)▸hw) λe1 C1 r1 hw=>H.go h2 C1 hw λe2 C2 r2 hw=>k (e1.trans e2) C2 (r1.mono e2.le) r2 hw
end
end
section
open PySem.SeqAt
section
variable{w:World}{f t:Cf}{sc:Scope}{m:Sm}{env:Env}{sl:Sl}{X Y:Em}{iY:AH}{s s' s₁:Shared}{P:PV->AH->Prop}{Q:Value->Shared->Prop}{E:Value->Shared->Prop}{x:Internal.X}{e:Expr}{es args:List Expr}{as:Xs}{pos:Pos}{i:Nat}{v u:Value}{p q:PV}{z:PV×AH}{a:Addr}{l:List PV}
theorem agi:∀{k₀ k:Nat} {vs:List Value},yj p l k₀=some k->jr X vs l->(∀q∈l,∃c,oB q p=some c)/\∃j,k=k₀+j/\(∃u,vs[j]?=some u/\yq X p u=true)/\∀m u,m<j->vs[m]?=some u->yq X p u=false:=by
 induction l with
|nil=>exact λh J=>xn h
|cons b l ih=>
  intro k₀ k vs h rs
  refine jg h λe h1 h=>mK rs λv us r rs=>?_
  cases e with
 |true=>exact jq h λc h2 e2=>⟨λq hq=>(aB.mp hq).elim (λz=>z▸⟨_,h1⟩) (Ra h2 q),0,e2.symm,⟨v,rfl,Et r h1⟩,λm J hm=>absurd hm (dW m)⟩
 |false=>exact jB (ih h rs) λa y=>y.elim λj y=>⟨λq hq=>(aB.mp hq).elim (λz=>z▸⟨_,h1⟩) (a q),j+1,ac7 y.1,y.2.1,λm u hm e=>match m with
  |0=>ai e▸Et r h1
  |m+1=>y.2.2 m u (cj hm) e⟩
theorem jr.dropLast{ps:List PV}:∀{vs:List Value},jr X vs ps->jr X vs.dropLast ps.dropLast:=by
 induction ps with
|nil=>exact λr=>oM r .nil
|cons p ps ih=>
  refine λr=>mK r λv vs r1 rs=>?_
  cases ps with
 |nil=>exact oM rs .nil
 |cons q ps=>exact mK (R:=λus=>jr X us (q::ps)->jr X (v::us).dropLast (p::q::ps).dropLast) rs (λu us J J rs=>.cons r1 (ih rs)) rs
theorem agj:sj=("append":Str):=by decide +kernel
theorem agk:sr=("extend":Str):=by decide +kernel
theorem agl:su=("pop":Str):=by decide +kernel
theorem agm:tL=("index":Str):=by decide +kernel
theorem Tz:oY=("get":Str):=by decide +kernel
theorem agn:tN=("update":Str):=by decide +kernel
theorem Fc{l':List PV}{vs:List Value}{k:Nat}(B:Base w X η s.heap)(g:η.get r i=some (.list l))(ea:X.ad r i false=some a)(e:s.heap.get? a=some (q8 vs k))(F:Array Value->Array Value)(hF:F vs.toArray=us.toArray)(rs:jr X us l'):
  Ext X s no X { s with heap:=s.heap.update a (bc F) }/\Base w X (η.set r i (.list l')) (s.heap.update a (bc F)):=
 Rq (t:=s.toks) B g ea (hF▸IsL.update e F :) (d7 ..) rs
theorem xh{G:Prop}(B:Base w X η s.heap)(ra:VR X (.ref a) (.ref r i))(g:η.lst r i=some l)(k:∀vs n,X.ad r i false=some a->s.heap.get? a=some (q8 vs n)->jr X vs l->G):G:=
 uF (P:=λv=>v=.ref a->G) B ra (vK g) (λb vs n ea e rs hb=>k vs n (cJ hb▸ea) (cJ hb▸e) rs) rfl
theorem xj{vs:List Value}{k:Nat}(rs:jr X vs l)(h:kB k=true)(hk:l.length<=k):vs.toArray.size<=sizeLine:=by
 rw [bM,rs.length]
 exact ah (ah hk (ql h)) (dc rfl)
theorem TB{kvs:List (Str×Value)}{l:List (Str×PV)}(R:KR X kvs l)(y:Str)(r:VR X v p):VR X ((valueAt kvs y).getD v) ((ja l y).getD p):=by
 rw [Ja]
 exact (Jb (k:=y) R).elim (λz=>by rw [z.1,z.2];exact r) λz=>z.elim λq z=>z.elim λu z=>by rw [z.1,z.2.1];exact z.2.2
theorem TF{v:Value}{l:List (Str×PV)}{G:Prop}(B:Base w X η s.heap)(h:wK p η=some l)(rv:VR X v p)(k:∀r i u a kvs,p=.ref r i->v=.ref a->X.ad r i false=some a->η.get r i=some (.sd l u)->s.heap.DictOf (strKind pw w) a kvs->KR X kvs l->(kvs.map (·.1)).Nodup->G):G:=
 jg h λz e h=>jq h λd h e'=>yp (P:=λv'=>v=v'->G) B (uG e▸rv) (Ep h) (λa kvs e0 ea J D R ev=>k z.1 z.2 d.2 a kvs (uG e) ev ea (e'▸Ep h) D.dictOf (e'▸R) D.nodup) rfl
section
variable(H:kK w n f)(hx:oi (f sc m) args=some as)(C:At w n X η sc m env sl s A)(k:Kx w n X sc m env sl s A P Q)
include H hx C k
section
variable(ra:VR X (.ref a) (.ref r i))
include ra
theorem ago(hl:aj args.length 1=true)(hw:WL n as sl η λvs η=>WM n (.lst r i) sj vs η P):wpAny (model pw w) A (callWith pos (.builtin "list.append") [.ref a] (backTo pos (starEach args env)) []) Q E s:=
 arg1 (G:=λL=>wpAny (model pw w) A (callWith pos (.builtin "list.append") [.ref a] L []) Q E s) H hl hx C hw λe he=>PySem.P.append_list (he λ{t7 s₁ Y sI ji} e1 C1 r1 hw=>hw.elim λu z=>z.elim λjl z=>jg z.1 λl g h=>xc (show cond (kB (l.length+1)) _ none=some _ from h) λc h=>xh C1.B (ra.mono e1.le) g λvs n ea e rs=>
  ⟨vs.toArray,n,xj rs c (aW _),e,jB (Fc (us:=vs++[t7]) C1.B (vK g) ea e (λxs=>xs.push t7) (by simp) (rs.append (.cons r1 .nil))) λE1 B1=>k (e1.trans E1) (C1.next E1 B1) .none (xp h λa b=>a▸b▸z.2)⟩)
theorem agp(hl:aj args.length 1=true)(hw:WL n as sl η λvs η=>WM n (.lst r i) sr vs η P):wpAny (model pw w) A (callWith pos (.builtin "list.extend") [.ref a] (backTo pos (starEach args env)) []) Q E s:=
 arg1 (G:=λL=>wpAny (model pw w) A (callWith pos (.builtin "list.extend") [.ref a] L []) Q E s) H hl hx C hw λe he=>PySem.P.extend_list (he λ{t7 s₁ Y sI ji} e1 C1 r1 hw=>hw.elim λu z=>z.elim λjl z=>jg z.1 λl g h=>jg (show (nZ sI ji).bind _=some _ from h) λl' g' h=>xc h λc h=>xb c λc J=>xh C1.B (ra.mono e1.le) g λvs n ea e rs=>wQ C1.B g' r1 λb us n' e' BP=>
  ⟨b,vs.toArray,us.toArray,n,n',xj rs c (aG ..),by rw [<-iB,eT];exact c7 (xj (rs.append BP) c (aq (aE ..))),(λh=>by rw [<-iB,eT] at h;exact absurd (xj (rs.append BP) c (aq (aE ..))) (Nat.not_le_of_lt (of_decide_eq_true (aN ..▸h).2))),rfl,e,e',jB (Fc (us:=vs++us) C1.B (vK g) ea e (λxs=>xs++us.toArray) (by simp) (rs.append BP)) λE1 B1=>k (e1.trans E1) (C1.next E1 B1) .none (xp h λa b=>a▸b▸z.2)⟩)
theorem agq(hl:aj args.length 1=true)(hw:WL n as sl η λvs η=>WM n (.lst r i) tL vs η P):wpAny (model pw w) A (callWith pos (.builtin "list.index") [.ref a] (backTo pos (starEach args env)) []) Q E s:=
 arg1 (G:=λL=>wpAny (model pw w) A (callWith pos (.builtin "list.index") [.ref a] L []) Q E s) H hl hx C hw λe he=>seqMethod1_meets PySem.F.slot_list_index PySem.F.entry_list_index (he λ{t7 s₁ Y sI ji} e1 C1 r1 hw=>hw.elim λu z=>z.elim λjl z=>jg z.1 λl g h=>jg (show (yj sI l 0).bind _=some _ from h) λj g' h=>xc h λc h=>xh C1.B (ra.mono e1.le) g λvs n ea e rs=>jB (agi g' rs) λy1 y2=>y2.elim λj' y2=>y2.2.1.elim λy y3=>by
  have ej:j=j':=y2.1.trans (cU _)
  have hj:=(cY.mp y3.1)
  exact ⟨⟨_,e,rfl⟩,PySem.F.args_list_index_2 _ _,_,list_indexAt a vs.toArray n none #[] t7 (yq Y sI) j (ej▸hj.elim λh J=>h) (dX (cF.mpr (ah (aD (ej▸hj.elim λh J=>h)) (xj rs c (ak _)))) (dc rfl)) (by subst ej;exact hj.elim λh e=>(congrArg (yq Y sI) e).trans y3.2) (λm hm hmj=>y2.2.2 m _ (ej▸hmj) (aR hm)),e,λy hy=>Rb y1 rs r1 C1.B C1.R.cm y hy,k (e1.trans (.tok ..)) C1.tok (.int _ _) (xp h λa b=>a▸b▸z.2)⟩)
theorem agr(hl:aj args.length 0=true)(hw:WL n as sl η λvs η=>WM n (.lst r i) su vs η P):wpAny (model pw w) A (callWith pos (.builtin "list.pop") [.ref a] (backTo pos (starEach args env)) []) Q E s:=by
 cases args with
|cons _ _=>exact xf hl
|nil=>
  obtain rfl:=ai hx
  exact ay hw λu z=>z.elim λjl z=>jg z.1 λl g h=>jg (show l.getLast?.bind _=some _ from h) λq hq h=>xc h λc h=>xh C.B ra g λvs n ea e rs=>(rs.get (List.getLast?_eq_getElem?.symm.trans hq)).elim λy hy=>by
   have hy1:vs.toArray[vs.toArray.size - 1]?=some y:=by rw [bM,cZ,rs.length];exact hy.1
   refine PySem.P.pop_list e hy1 (jB (Fc (us:=vs.dropLast) C.B (vK g) ea e (λxs=>xs.eraseIdxIfInBounds (vs.toArray.size - 1)) ?_ rs.dropLast) λE1 B1=>k E1 (C.next E1 B1) hy.2 (xp h λa b=>a▸b▸z.2)) (xj rs c (ak _))
   rw [List.eraseIdxIfInBounds_toArray,bM,List.eraseIdx_length_sub_one]
end
theorem TG{R:List PV->AH->Prop}(hm:(a == sysModules)=false)(hl:(aj args.length 1 || aj args.length 2)=true)(hw:WL n as sl η R)
  (D:∀{Z lG jh vs},Ext X s no Z lG->Base w Z jh lG.heap->R vs jh->∃l kvs q,lG.heap.DictOf (strKind pw w) a kvs/\KR Z kvs l/\getM l vs=some q/\P q jh):wpAny (model pw w) A (callWith pos (.builtin "dict.get") [.ref a] (backTo pos (starEach args env)) []) Q E s:=
 xd (aj args.length 1) (λhl=>arg1 (G:=λL=>wpAny (model pw w) A (callWith pos (.builtin "dict.get") [.ref a] L []) Q E s) H hl hx C hw λe he=>wpAny_dict_get1 (knd:=strKind pw w) hm (he λ{t7 s₁ Y sI ji} e1 C1 r1 hw=>(D e1 C1.B hw).elim λl z=>z.elim λkvs z=>z.elim λq z=>jq z.2.2.1 λy hy e=>⟨y,_,Es hy r1 λt=>strKind_is pw w y t,z.1.mapOf,k (e1.trans (.tok ..)) C1.tok (TB z.2.1 y .none) (e▸z.2.2.2)⟩))
  λhn=>arg2 (G:=λL=>wpAny (model pw w) A (callWith pos (.builtin "dict.get") [.ref a] L []) Q E s) H (by rw [hn] at hl;exact hl) hx C hw λe e' he=>wpAny_dict_get2 (knd:=strKind pw w) hm (he λ{t7 Tq s₁ Y sI af7 ji} e1 C1 r1 r2 hw=>(D e1 C1.B hw).elim λl z=>z.elim λkvs z=>z.elim λq z=>jq z.2.2.1 λy hy e=>⟨y,_,Es hy r1 λt=>strKind_is pw w y t,z.1.mapOf,k (e1.trans (.tok ..)) C1.tok (TB z.2.1 y r2) (e▸z.2.2.2)⟩)
theorem agt(ra:VR X (.ref a) (.ref r i))(hl:aj args.length 1=true)(hw:WL n as sl η λvs η=>WM n (.dct r i) tN vs η P):wpAny (model pw w) A (callWith pos (.builtin "dict.update") [.ref a] (backTo pos (starEach args env)) []) Q E s:=
 arg1 (G:=λL=>wpAny (model pw w) A (callWith pos (.builtin "dict.update") [.ref a] L []) Q E s) H hl hx C hw λe he=>method1_meetsIn PySem.F.slot_dict_update PySem.F.entry_dict_update (he λ{t7 s₁ Y sI ji} e1 C1 r1 hw=>hw.elim λu z=>z.elim λjl z=>jg z.1 λo g h=>by
  induction o using AO.casesOn with
 |sd l y=>exact jg (show (wK sI ji).bind _=some _ from h) λl' g' h=>xc h λd0 h2=>xb d0 λc1 c2=>yp (P:=λv=>v=.ref a->_) C1.B (ra.mono e1.le) g (λa' kvs e0 ea J D R ev=>TF C1.B g' r1 λr' i' J b us ep eb TH J D' R' J=>by
    obtain rfl:=cJ ev
    subst eb ep
    refine ⟨D.dictOf.typeIs,PySem.F.args_dict_update_2 _ _,_,meets_dict_update (strKind pw w) a' b (λq=>?_) (C1.B.vD TH),_,_,D.dictOf,D',by rw [tT R,tT R'];exact ah (ql c1) (dc rfl),λh' ho J Ca=>?_⟩
    ·have y:=C1.B.inj ea (q▸TH)
     rw [show El r i (.ref r' i')=!(aj r r' && aj i i') from rfl,y.1,y.2.1,bZ,bZ] at c2
     exact nomatch c2
    ·exact (Jm (n:=y+1) (t:=s₁.toks) C1.B g (λe=>by cases e;exact bG _) ea ho Ca (Tr R D.nodup R')).elim λW z1=>k (e1.trans z1.1) (C1.next z1.1 z1.2) .none (xp h2 λa b=>a▸b▸z.2)) rfl
 |jm=>exact xn h
 |_=>exact xn h)
end
theorem agu{o:Expr}{apos:Pos}(hb:zH o=true)(hl:aj apos.endLine pos.line=true)(hn:args.length<20)(TJ:(backTo pos (starEach args env)).any (·.1)=false)
  (h:wpAny (model pw w) A (eval o env) (λov s₁=>wpAny (model pw w) A (getMethod ov name (do return (<-importBound o env).getD true)) (λfr lG=>wpAny (model pw w) A (callWith pos fr.1 fr.2 (backTo pos (starEach args env)) []) Q E lG) E s₁) E s) :
  wpAny (model pw w) A (eval (.Call (.Attribute o name apos) args [] pos) env) Q E s:=by
 rw [arm_eval_Call,Tn hb]
 refine wpAny_bind (wpAny_mono h (λov s₁ TK=>wpAny_bind (wpAny_standAt ?_)) λJ J e=>e)
 have agv:methodCallForm (args.length+([]:List Keyword).length) (backTo pos (starEach args env)) (backToKw pos (keywordEach [] env))=true:=by
  unfold methodCallForm
  rw [show (backTo pos (starEach args env)).all (λx=>!x.1)=true from aI.mpr λx hx=>by rw [fZ] at TJ;simpa using TJ x hx,show (backToKw pos (keywordEach [] env))=[] from rfl]
  simp
  exact ZY hn
 have JR:methodCallPos true o env apos pos=pure pos:=by
  unfold methodCallPos
  simp [aP hl]
 unfold methodCall
 rw [agv]
 refine wpAny_bind (wpAny_holding (wpAny_mono (show wpAny (model pw w) A (calleeOf true o env ov name) _ E s₁ from by unfold calleeOf;rw [if_pos rfl];exact TK) (λfr lG agw=>wpAny_bind (wpAny_of_eq JR agw)) λJ J e=>e))
theorem agx{M:Str->Prop}(h:(sq nm sj || sq nm sr || sq nm su || sq nm tL)=true)(a:M sj)(e:M sr)(p:M su)(i:M tL):M nm:=
 xd (sq nm sj) (λh=>jS.mp h▸a) λh1=>xd (sq nm sr) (λh=>jS.mp h▸e) λh2=>xd (sq nm su) (λh=>jS.mp h▸p) λh3=>by
  rw [h1,h2,h3] at h
  exact jS.mp h▸i
theorem agy{c fa:Addr}{pl:Sem Bool}{Q:Value×List Value->Shared->Prop}(M:JF w.params c nm fa)(B:Base w X η s.heap)(rv:VR X v (.ref r i))(g:η.get r i=some (.inst c fs))(hn:ja fs nm=none)(h:Q (.ref fa,[v]) s):wpAny (model pw w) A (getMethod v nm pl) Q E s:=
 Ex (P:=λv=>Q (.ref fa,[v]) s->wpAny (model pw w) A (getMethod v nm pl) Q E s) B rv g (λa dx m o ea ed I lk hb hr h=>method_fn B.kf I M.ga M.gk M.fnd M.ty (by unfold shadowIn;dsimp only;rw [lk,hr.no hn];rfl) h) h
theorem agz{M:PV->MS->Prop}{ov:PV}{ms:MS}(h:pg tab ov nm η=some ms)
  (kL:∀r i l,η.get r i=some (.list l)->(sq nm sj || sq nm sr || sq nm su || sq nm tL)=true->M (.ref r i) (.lst r i))
  (kD:∀r i l u,η.get r i=some (.sd l u)->(sq nm oY || sq nm tN)=true->M (.ref r i) (.dct r i))
  (kN:∀r i,η.get r i=some .jm->sq nm oY=true->M (.ref r i) (.dct r i))
  (kI:∀r i c fs l f,η.get r i=some (.inst c fs)->jv tab.meths c=some l->ja l nm=some f->ja fs nm=none->M (.ref r i) (.fn f (some (.ref r i))))
  (kS:∀a l,jv tab.tE a=some l->sq nm oY=true->M (.st (.ref a)) (.stat a))
  (kC:∀a l f,jv tab.meths a=some l->ja l nm=some f->M (.st (.ref a)) (.fn f none)):M ov ms:=by
 induction ov using PV.casesOn with
|ref r i=>
  refine jg h λo g h=>?_
  clear kS kC
  induction o using AO.casesOn with
 |list l=>exact xc h λc h=>ai h▸kL r i l g c
 |sd l u=>exact xc h λc h=>ai h▸kD r i l u g c
 |jm=>exact xc h λc h=>ai h▸kN r i g c
 |inst c fs=>exact jg h λl e1 h=>jg h λf e2 h=>xc h λc h=>ai h▸kI r i _ fs l f g e1 e2 (ek.mp c)
 |_=>exact xn h
|st y=>
  clear kL kD kN kI
  induction y using Value.casesOn with
 |ref a=>
   refine xo (jv tab.tE a) (λe=>?_) λl e=>?_
   all_goals
    unfold pg at h
    dsimp only at h
    rw [e] at h
   ·exact jg h λl e1 h=>jq h λf e2 h=>h▸kC a l f e1 e2
   ·exact xc h λc h=>ai h▸kS a l e c
 |_=>exact xn h
|_=>exact xn h
theorem agA(n:Nat):sH sj n=aj n 1:=rfl
theorem agB(n:Nat):sH sr n=aj n 1:=rfl
theorem agC(n:Nat):sH su n=aj n 0:=rfl
theorem agD(n:Nat):sH tL n=aj n 1:=rfl
theorem TN(n:Nat):sH oY n=(aj n 1 || aj n 2):=rfl
theorem agE(n:Nat):sH tN n=aj n 1:=rfl
theorem agF{vs:List PV}(B:Base w X η s.heap)(ra:VR X (.ref a) (.ref r i))(h:WM n (.dct r i) oY vs η P):∃l kvs q,s.heap.DictOf (strKind pw w) a kvs/\KR X kvs l/\getM l vs=some q/\P q η:=
 h.elim λu z=>z.elim λjl z=>jg z.1 λo g h=>by
  have go:∀{kvs l},s.heap.DictOf (strKind pw w) a kvs->KR X kvs l->(getM l vs).map (·,η)=some (u,jl)->∃l kvs q,s.heap.DictOf (strKind pw w) a kvs/\KR X kvs l/\getM l vs=some q/\P q η:=λ{kvs l} D R h=>jq h λq hq e=>⟨l,kvs,q,D,R,hq,(cL e).1▸(cL e).2▸z.2⟩
  have ob:=ra.elim λb y=>(B.ob g).elim λc y2=>(ai (y2.1.symm.trans y.2)).trans (cJ y.1).symm▸y2.2
  induction o using AO.casesOn with
 |sd l u=>exact ay ob λkvs y=>y.elim λJ y=>go y.2.1.dictOf y.2.2 h
 |jm=>exact go (yo (knd:=strKind pw w) ob).dictOf .nil h
 |_=>exact xn h
theorem agG{M:Str->Prop}(h:(sq nm oY || sq nm tN)=true)(g:M oY)(u:M tN):M nm:=
 xd (sq nm oY) (λh=>jS.mp h▸g) λh1=>by
  rw [h1] at h
  exact jS.mp h▸u
theorem get_name{M:Str->Prop}(h:sq nm oY=true)(g:M oY):M nm:=jS.mp h▸g
section
variable(H:kK w n f)(hx:oi (f sc m) args=some as)(C:At w n X η sc m env sl s A)(k:Kx w n X sc m env sl s A P Q){pl:Sem Bool}(ha:sH nm args.length=true)
include H hx C k ha
theorem TP(ra:VR X (.ref a) (.ref r i))(hm:(a == sysModules)=false)(hT:s.TypeIs (.ref a) "dict")(hd:∀b,er a=.ref b->∃o,s.heap.get? b=some o/\o.dict=none)(c:(sq nm oY || sq nm tN)=true)(hw:WL n as sl η λvs η=>WM n (.dct r i) nm vs η P):
  wpAny (model pw w) A (getMethod (.ref a) nm pl) (λfr lG=>wpAny (model pw w) A (callWith pos fr.1 fr.2 (backTo pos (starEach args env)) []) Q E lG) E s:=by
 refine agG (M:=λnm=>sH nm args.length=true->(WL n as sl η λvs η=>WM n (.dct r i) nm vs η P)->wpAny (model pw w) A (getMethod (.ref a) nm pl) (λfr lG=>wpAny (model pw w) A (callWith pos fr.1 fr.2 (backTo pos (starEach args env)) []) Q E lG) E s) c ?_ ?_ ha hw
 ·exact λha hw=>Tz▸getMethod_builtin hT PySem.F.plainAttrs_dict PySem.F.slot_dict_get PySem.F.type_dict_get hd (TG H hx C k hm ((TN _).symm.trans ha) hw λe B h=>agF B (ra.mono e.le) h)
 ·exact λha hw=>agn▸getMethod_builtin hT PySem.F.plainAttrs_dict PySem.F.slot_dict_update PySem.F.type_dict_update hd (agt H hx C k ra ((agE _).symm.trans ha) hw)
theorem agH(g:η.get r i=some (.list l))(c:(sq nm sj || sq nm sr || sq nm su || sq nm tL)=true)(rv:VR X v (.ref r i))(hw:WL n as sl η λvs η=>WM n (.lst r i) nm vs η P):
  wpAny (model pw w) A (getMethod v nm pl) (λfr lG=>wpAny (model pw w) A (callWith pos fr.1 fr.2 (backTo pos (starEach args env)) []) Q E lG) E s:=uF C.B rv g λa vs q ea e rs=>by
 have hT:s.TypeIs (.ref a) "list":=⟨_,e,rfl⟩
 have hd:∀b,er a=.ref b->∃o,s.heap.get? b=some o/\o.dict=none:=λb z=>cJ z▸⟨_,e,rfl⟩
 have ra:VR X (.ref a) (.ref r i):=.ref ea
 refine agx (M:=λnm=>sH nm args.length=true->(WL n as sl η λvs η=>WM n (.lst r i) nm vs η P)->wpAny (model pw w) A (getMethod (.ref a) nm pl) (λfr lG=>wpAny (model pw w) A (callWith pos fr.1 fr.2 (backTo pos (starEach args env)) []) Q E lG) E s) c ?_ ?_ ?_ ?_ ha hw
 ·exact λha hw=>agj▸getMethod_builtin hT PySem.F.plainAttrs_list PySem.F.slot_list_append PySem.F.type_list_append hd (ago H hx C k ra ((agA _).symm.trans ha) hw)
 ·exact λha hw=>agk▸getMethod_builtin hT PySem.F.plainAttrs_list PySem.F.slot_list_extend PySem.F.type_list_extend hd (agp H hx C k ra ((agB _).symm.trans ha) hw)
 ·exact λha hw=>agl▸getMethod_builtin hT PySem.F.plainAttrs_list PySem.F.slot_list_pop PySem.F.type_list_pop hd (agr H hx C k ra ((agC _).symm.trans ha) hw)
 ·exact λha hw=>agm▸getMethod_builtin hT PySem.F.plainAttrs_list PySem.F.slot_list_index PySem.F.type_list_index hd (agq H hx C k ra ((agD _).symm.trans ha) hw)
theorem agI{ov:PV}{ms:MS}(G:Good w tab)(rv:VR X v ov)(h:pg tab ov nm η=some ms)(hw:WL n as sl η λvs η=>WM n ms nm vs η P):
  wpAny (model pw w) A (getMethod v nm pl) (λfr lG=>wpAny (model pw w) A (callWith pos fr.1 fr.2 (backTo pos (starEach args env)) []) Q E lG) E s:=by
 refine agz (M:=λov ms=>VR X v ov->(WL n as sl η λvs η=>WM n ms nm vs η P)->wpAny (model pw w) A (getMethod v nm pl) (λfr lG=>wpAny (model pw w) A (callWith pos fr.1 fr.2 (backTo pos (starEach args env)) []) Q E lG) E s) h ?_ ?_ ?_ ?_ ?_ ?_ rv hw
 ·exact λr i l g c rv hw=>agH H hx C k ha g c rv hw
 ·exact λr i l u g c rv hw=>yp C.B rv g λa kvs e ea J D R=>TP H hx C k ha (.ref ea) (C.B.vD ea) D.dictOf.typeIs D.dictOf.mapOf.noDict c hw
 ·exact λr i g c rv hw=>BJ C.B rv g λa ea e=>TP H hx C k ha (.ref ea) (C.B.vD ea) ⟨_,e,rfl⟩ (λb z=>cJ z▸⟨_,e,rfl⟩) (by rw [c];rfl) hw
 ·exact λr i c fs l fa g h5 h6 h7 rv hw=>
   have M:=G.m h5 h6
   agy M C.B rv g h7 (Fb (.inl M.kp) H hx C hw λe1 C1 rs hw=>hw G C1.B (.st (decide_eq_true M.lt)) (.cons (rv.mono e1.le) rs) C1.R λe2 B2 r2 q=>k (e1.trans e2) (C1.next e2 B2) r2 q)
 ·exact λa l hd c rv hw=>vT rv λJ=>(G.d.at_ hd C.B).elim λhm z=>z.elim λkvs z=>
   get_name (M:=λnm=>sH nm args.length=true->(WL n as sl η λvs η=>WM n (.stat a) nm vs η P)->wpAny (model pw w) A (getMethod (.ref a) nm pl) (λfr lG=>wpAny (model pw w) A (callWith pos fr.1 fr.2 (backTo pos (starEach args env)) []) Q E lG) E s) c
    (λha hw=>Tz▸getMethod_builtin z.1.typeIs PySem.F.plainAttrs_dict PySem.F.slot_dict_get PySem.F.type_dict_get z.1.mapOf.noDict (TG H hx C k (beq_eq_false_iff_ne.mpr hm) ((TN _).symm.trans ha) hw λe B h=>h.elim λu y=>y.elim λjl y=>jg y.1 λl' e' h=>jq h λq hq e3=>(G.d.at_ e' B).2.elim λkvs z=>⟨l',kvs,q,z.1,z.2,hq,(cL e3).1▸(cL e3).2▸y.2⟩)) ha hw
 ·exact λa l fa h5 h6 rv hw=>vT rv λJ=>
   have M:=G.m h5 h6
   method_cls C.B.kf M.sp (cls_value C.B.kf M.rd M.fc rfl (Fb (s:={ s with toks:=s.toks+1 }) (.inl M.kp) H hx C.tok hw λe1 C1 rs hw=>hw G C1.B (.st (decide_eq_true M.lt)) rs C1.R λe2 B2 r2 q=>k (((Ext.tok X s no _).trans e1).trans e2) (C1.next e2 B2) r2 q))
end
theorem agJ{o:Expr}{apos:Pos}(G:Good w tab)(H:kK w n f)(c:(zH o && aj apos.endLine pos.line && aY args.length 20 && sH nm args.length)=true)(h:((f sc m o).bind λo=>(oi (f sc m) args).map λas=>.lP o nm as)=some x)(C:At w n X η sc m env sl s A)(hw:W n x sl η P)(k:Kx w n X sc m env sl s A P Q):wpAny (model pw w) A (eval (.Call (.Attribute o nm apos) args [] pos) env) Q E s:=
 xb c λc ha=>xb c λc hn=>xb c λhb hl=>jg h λox h1 h=>jq h λas h2 e=>agu hb hl (uE hn) (JQ H.star h2) (H.go h1 C (wx e hw :) λe1 C1 r1 hw=>hw.elim λms z=>agI H h2 C1 (λe2=>k (e1.trans e2)) ha G r1 z.1 z.2)
end
end
section
open PySem.SeqAt
def zX(X:Em)(o:Obj)(k:Nat):Src->Prop
|.lst r i=>∃a,X.ad r i false=some a/\o.cls=.type "list_iterator"/\o.data=.fields #[.ref a,.int k 0]
|.vals l=>∃a,(∃vs m,X.fz a=some (tC vs m)/\jr X vs l)/\o.cls=.type "tuple_iterator"/\o.data=.fields #[.ref a,.int k 0]
|.mr a b=>k<=(b - a).toNat/\o={ cls:=.type "range_iterator",dict:=none,data:=.fields #[rawInt (a+k),rawInt (b - a - k),rawInt 1],slots:=#[] }
|.keys r i v m=>∃a e,X.ad r i false=some a/\X.ep r i v=some e/\o.cls=.type "dict_keyiterator"/\o.data=.fields #[.ref a,.int k 0,.int m 0,.int e 0]
|.nil r i=>∃a,X.ad r i false=some a/\o.cls=.type "dict_keyiterator"/\o.data=.fields #[.ref a,.int (0:Nat) 0,.int (0:Nat) 0,.int (0:Nat) 0]
|.rev r i m=>∃a,X.ad r i false=some a/\k<=m/\o.cls=.type "list_reverseiterator"/\o.data=.fields #[.ref a,rawInt ((m:Int) - 1 - (k:Int))]
def oP(X:Em)(h:Heap)(I:Addr)(k:Nat)(S:Src):Prop:=∃o,h.get? I=some o/\zX X o k S
section
variable{w:World}{f t:Cf}{sc:Scope}{m:Sm}{env:Env}{sl kT:Sl}{X Y:Em}{iY:AH}{s s' s₁:Shared}{P:PV->AH->Prop}{Q:Value->Shared->Prop}{E:Value->Shared->Prop}{x:Internal.X}{e:Expr}{es args:List Expr}{as:Xs}{pos:Pos}{i k:Nat}{v u:Value}{p q:PV}{a I:Addr}{l:List PV}{S:Src}{h:Heap}{o:Obj}
theorem zX.mono(x:zX X o k S)(le:X.Le Y):zX Y o k S:=by
 induction S using Src.casesOn with
|lst r i=>exact ay x λa z=>⟨a,le.ad z.1,z.2⟩
|vals l=>exact ay x λa z=>⟨a,z.1.elim λvs y=>y.elim λm y=>⟨vs,m,le.fz y.1,y.2.mono le⟩,z.2⟩
|mr a b=>exact x
|keys r i v m=>exact ay x λa z=>z.elim λe z=>⟨a,e,le.ad z.1,le.ep z.2.1,z.2.2⟩
|nil r i=>exact ay x λa z=>⟨a,le.ad z.1,z.2⟩
|rev r i m=>exact ay x λa z=>⟨a,le.ad z.1,z.2⟩
theorem oP.mono(x:oP X h I k S)(le:X.Le Y)(hi:∀o,h.get? I=some o->h'.get? I=some o):oP Y h' I k S:=x.elim λo z=>⟨o,hi o z.1,z.2.mono le⟩
theorem TQ{vs:List Value}(rs:jr X vs l)(h:some l[k]?=some none):vs.toArray[k]?=none:=cZ.trans (cy (rs.length▸eY.mp (ai h)))
theorem TR{G:Prop}{e:Nat}{d:List (Str×PV)×Nat}{v' n':Nat}(B:Base w X η s.heap)(ea:X.ad r i false=some a)(ee:X.ep r i v'=some e)(c1:aj d.2 v'=true)(c2:aj d.1.length n'=true)(g:η.dct r i=some d)(k:∀kvs,s.heap.DictAt (strKind pw w) a kvs e->KR X kvs d.1->n'=kvs.length->G):G:=
 (B.ob (Ep g)).elim λb z=>ay z.2 λkvs y=>y.elim λe' y=>k kvs (ai (z.1.symm.trans ea)▸ai (y.1.symm.trans (aP c1▸ee))▸y.2.1) y.2.2 ((aP c2).symm.trans (tT y.2.2).symm)
theorem TS{key:Value}{x:Str}(h:(strKind pw w).is x key=true):VR X key (.str x):=by
 cases key<;>first|exact xf h|exact ⟨_,congrArg (Value.str · _) (of_decide_eq_true h)⟩
theorem agK(B:Base w X η s.heap)(x:oP X s.heap I k S)(hh:A.handled=none)(h:S.at k η=some none){Q:Option Value->Shared->Prop}(q:∀{h'},dH I s.heap h'->Q none { s with heap:=h' }):wpAny (model pw w) A (pyNext (.ref I)) Q E s:=by
 have q:∀h',dH I s.heap h'->Q none { s with heap:=h' }:=λJ=>q
 obtain ⟨o,x⟩:=x
 induction S using Src.casesOn with
|lst r i=>exact jg h λl g h=>xc h λc h=>ay x.2 λa y=>xh B (.ref y.1) g λvs n ea e rs=>wpAny_pyNext_list_end hh ⟨o,x.1,y.2⟩ (oE e) (TQ rs h) q
|vals l=>exact ay x.2 λa y=>y.1.elim λvs z=>z.elim λm z=>wpAny_pyNext_tuple_end hh ⟨o,x.1,y.2⟩ (vE (B.fz z.1)) (TQ z.2 h) q
|mr a b=>
  have c:decide (a+(k:Int)<b)=false:=xd (decide (a+(k:Int)<b)) (λc=>by
   rw [show Src.at (.mr a b) k η=some (cond (decide (a+k<b)) (some (.int (a+k))) none) from rfl,c] at h
   exact nomatch h) id
  exact wpAny_pyNext_range_end hh (x.1.trans (congrArg some x.2.2)) (abA (of_decide_eq_false c)) q
|keys r i v m=>exact jg h λd g h1=>xc h1 λc h2=>xb c λc1 c2=>ay x.2 λa y=>y.elim λe y=>TR B y.1 y.2.1 c1 c2 g λkvs D R hm=>wpAny_pyNext_dict_end hh ⟨o,x.1,hm▸y.2.2⟩ D (cy (tT R▸eY.mp (Option.map_eq_none_iff.mp (ai h2)))) q
|nil r i=>
  refine jg h λb g h=>ay x.2 λa y=>?_
  cases b<;>first|exact xn h|skip
  exact BJ (P:=λu=>u=.ref a->wpAny (model pw w) A (pyNext (.ref I)) Q E s) B (.ref y.1) g (λa' ea e z=>wpAny_pyNext_dict_end (kvs:=[]) hh ⟨o,x.1,y.2⟩ (yo (knd:=strKind pw w) (cJ z▸e)) rfl q) rfl
|rev r i m=>
  have c:aY k m=false:=xd (aY k m) (λc=>by
   rw [show Src.at (.rev r i m) k η=cond (aY k m) ((η.lst r i).bind λl=>cond (kB l.length) ((l[m - 1 - k]?).map some) none) (some none) from rfl,c] at h
   exact jg h λl g h=>xc h λc h=>jq h λJ J e=>nomatch e) id
  exact ay x.2 λa y=>wpAny_pyNext_rev_end hh (l:=a) ⟨o,x.1,y.2.2.1,by rw [y.2.2.2,abD y.2.1 λz=>xf (c.symm.trans (Nat.ble_eq_true_of_le z))]⟩ q
theorem agL(B:Base w X η s.heap)(x:oP X s.heap I k S)(h:S.at k η=some (some p)){Q:Option Value->Shared->Prop}(q:∀{v h' t},dH I s.heap h'->VR X v p->oP X h' I (k+1) S->Q (some v) { s with heap:=h',toks:=t }):wpAny (model pw w) A (pyNext (.ref I)) Q E s:=by
 obtain ⟨o,x⟩:=x
 induction S using Src.casesOn with
|lst r i=>exact jg h λl g h=>xc h λc h=>ay x.2 λa y=>xh B (.ref y.1) g λvs n ea e rs=>(rs.get (ai h)).elim λv z=>wpAny_pyNext_list_item ⟨o,x.1,y.2⟩ (oE e) (cZ.trans z.1) λh' it e=>q (t:=s.toks) e.extBut z.2 (it.elim λo z=>⟨o,z.1,a,y.1,z.2⟩)
|vals l=>exact ay x.2 λa y=>y.1.elim λvs z=>z.elim λm z=>(z.2.get (ai h)).elim λv z2=>wpAny_pyNext_tuple_item ⟨o,x.1,y.2⟩ (vE (B.fz z.1)) (cZ.trans z2.1) λh' it e=>q (t:=s.toks) e.extBut z2.2 (it.elim λo z3=>⟨o,z3.1,a,y.1,z3.2⟩)
|mr a b=>
  refine xd (decide (a+(k:Int)<b)) (λc=>?_) λc=>?_
  all_goals rw [show Src.at (.mr a b) k η=some (cond (decide (a+k<b)) (some (.int (a+k))) none) from rfl,c] at h
  ·have c:=of_decide_eq_true c
   refine wpAny_pyNext_range_item (x.1.trans (congrArg some x.2.2)) (abw c) λh' it e=>q e.extBut (ai (ai h)▸.int _ _) ?_
   rw [aby,abz] at it
   exact ⟨_,it,abx c,rfl⟩
  ·exact nomatch h
|keys r i v m=>exact jg h λd g h1=>xc h1 λc h2=>xb c λc1 c2=>ay x.2 λa y=>y.elim λe y=>TR B y.1 y.2.1 c1 c2 g λkvs D R hm=>jq (ai h2) λb hb eb=>(afb R hb).elim λv hv=>wpAny_pyNext_dict_item ⟨o,x.1,hm▸y.2.2⟩ D hv λkey h' hk it e'=>q (t:=s.toks) e'.extBut (eb▸TS hk) (it.elim λo z=>⟨o,z.1,a,e,y.1,y.2.1,hm.symm▸z.2⟩)
|nil r i=>exact jg h λb g h=>by cases b<;>first|exact xn h|exact nomatch h
|rev r i m=>
  refine xd (aY k m) (λc=>?_) λc=>?_
  all_goals rw [show Src.at (.rev r i m) k η=cond (aY k m) ((η.lst r i).bind λl=>cond (kB l.length) ((l[m - 1 - k]?).map some) none) (some none) from rfl,c] at h
  ·have e1:=abB (uE c)
   exact jg h λl g h=>xc h λc2 h=>jq h λp' hp e'=>ay x.2 λa y=>xh B (.ref y.1) g λvs n ea e rs=>(rs.get hp).elim λv z=>wpAny_pyNext_rev_item (l:=a) ⟨o,x.1,y.2.2.1,by rw [y.2.2.2,e1]⟩ (oE e) (cZ.trans z.1) λh' it e=>q (t:=s.toks) e.extBut (ai e'▸z.2) (by
    rw [abC e1] at it
    exact it.elim λo z=>⟨o,z.1,a,y.1,uE c,z.2⟩)
  ·exact nomatch h
theorem TV(B:Base w X η s.heap)(rv:VR X v p)(h:tG p η=some S)(q:∀{o},oP X (s.heap.push o) s.heap.objs.size 0 S->Q (.ref s.heap.objs.size) { s with heap:=s.heap.push o }):wpAny (model pw w) A (pyIter v) Q E s:=by
 induction p using PV.casesOn with
|ref r i=>
  refine jg h λo g h=>?_
  induction o using AO.casesOn with
 |list l=>
   obtain rfl:=ai h
   exact uF B rv g λa vs n ea e rs=>wpAny_pyIter_list (oE e) (q ⟨_,bK _ rfl,a,ea,rfl,rfl⟩)
 |sd l u=>
   refine xc h λc h=>?_
   obtain rfl:=ai h
   exact yp B rv g λa kvs e ea ee D R=>wpAny_pyIter_dict (B.vD ea) D (q ⟨_,bK _ rfl,a,e,ea,ee,rfl,tT R▸rfl⟩)
 |jm=>
   obtain rfl:=ai h
   exact BJ B rv g λa ea e=>wpAny_pyIter_dict (B.vD ea) (yo (knd:=strKind pw w) e) (q ⟨_,bK _ rfl,a,ea,rfl,rfl⟩)
 |_=>exact xn h
|tup l=>
  obtain rfl:=ai h
  exact vU rv λa vs m e rs=>wpAny_pyIter_tuple (vE (B.fz e)) (q ⟨_,bK _ rfl,a,⟨vs,m,e,rs⟩,rfl,rfl⟩)
|mr a b=>
  refine xc h λc h=>xb c λc c3=>xb c λc1 c2=>?_
  obtain rfl:=ai h
  have c1:=of_decide_eq_true c1
  have c2:=of_decide_eq_true c2
  have c3:=of_decide_eq_true c3
  refine vG rv λd o e0 z=>z.elim λt z=>z.elim λu z=>z.elim λy z=>wpAny_pyIter_range (z▸B.fz e0) (small_one (by omega) (by omega) (by omega) (by omega)) (q ⟨_,bK _ rfl,bx _,?_⟩)
  have qL:iC a b 1=b - a:=by
   unfold iC
   rw [if_pos (dc rfl)]
   split
   ·rw [Int.ediv_one];exact abE
   ·exact abF ⟨⟨c1,c2⟩,c3⟩ (by assumption)
  rw [qL]
  simp
|_=>exact xn h
theorem TX(x:oP X s.heap I k S)(h:Q (.ref I) s):wpAny (model pw w) A (pyIter (.ref I)) Q E s:=ay x λo x=>by
 induction S using Src.casesOn with
|lst r i=>exact ay x.2 λa y=>wpAny_pyIter_listiter ⟨o,x.1,y.2⟩ h
|vals l=>exact ay x.2 λa y=>wpAny_pyIter_tupleiter ⟨o,x.1,y.2⟩ h
|mr a b=>exact wpAny_pyIter_rangeiter (x.1.trans (congrArg some x.2.2)) h
|keys r i v m=>exact ay x.2 λa y=>y.elim λe y=>wpAny_pyIter_keyiter ⟨o,x.1,y.2.2⟩ h
|nil r i=>exact ay x.2 λa y=>wpAny_pyIter_keyiter ⟨o,x.1,y.2⟩ h
|rev r i m=>exact ay x.2 λa y=>wpAny_pyIter_revIter (i:=(m:Int) - 1 - (k:Int)) ⟨o,x.1,y.2.2⟩ h
theorem zX.kind(x:zX X o k S):∃ty vs,o.cls=.type ty/\o.data=.fields vs/\["enumerate","zip","dict_itemiterator","dict_reverseitemiterator","odict_iterator","itertools.zip_longest","itertools.pairwise"].contains ty=false:=by
 induction S using Src.casesOn with
|lst r i=>exact ay x λa y=>⟨_,_,y.2.1,y.2.2,rfl⟩
|vals l=>exact ay x λa y=>⟨_,_,y.2.1,y.2.2,rfl⟩
|mr a b=>exact x.2▸⟨_,_,rfl,rfl,rfl⟩
|keys r i v m=>exact ay x λa y=>y.elim λe y=>⟨_,_,y.2.2.1,y.2.2.2,rfl⟩
|nil r i=>exact ay x λa y=>⟨_,_,y.2.1,y.2.2,rfl⟩
|rev r i m=>exact ay x λa y=>⟨_,_,y.2.2.1,y.2.2.2,rfl⟩
theorem agM{c:Nat}{Q:Unit->Shared->Prop}(x:oP X s.heap I k S)(h:Q () s):wpAny (model pw w) A (letOwnedTupleGo (.Tuple ts c pos) (.ref I) (.ref a)) Q E s:=x.elim λo x=>x.2.kind.elim λty z=>z.elim λvs z=>by
 refine wpAny_bind (wpAny_load x.1 ?_)
 rw [z.1,z.2.1]
 dsimp only
 rw [z.2.2]
 exact wpAny_pure h
theorem Fd{y:Str}(h:BE e=some y):∃p,e=.Name y p:=by
 induction e using PySem.Expr.casesOn with
|Name y p=>exact ai h▸⟨p,rfl⟩
|_=>exact xn h
theorem TY(h:BF e=some ts):∃c p,e=.Tuple ts c p:=by
 induction e using PySem.Expr.casesOn with
|Tuple ts c p=>exact ai h▸⟨c,p,rfl⟩
|_=>exact xn h
theorem T3(h:wW m=true){x y:Str}{i:Nat}(hx:ja m x=some i)(hy:ja m y=some i):x=y:=by
 have:=aI.mp (aI.mp h _ (tS hx)) _ (tS hy)
 simp only [bZ,Bool.not_true,Bool.false_or] at this
 exact jS.mp this
theorem JS{v u:PV}:∀{sl:Sl} {i j:Nat},look (put sl i (some v)) j=some u->(j=i/\u=v)\/(j≠i/\look sl j=some u)
|[],_,_,h=>xn h
|_::_,0,0,h=>.inl ⟨rfl,(ai h).symm⟩
|_::_,0,j+1,h=>.inr ⟨OI,h⟩
|_::_,i+1,0,h=>.inr ⟨OJ,h⟩
|_::r,i+1,j+1,h=>(JS (sl:=r) h).imp (λz=>⟨congrArg (·+1) z.1,z.2⟩) λz=>⟨λe=>z.1 (dK e),z.2⟩
theorem At.bind{y:Str}(C:At w n X η sc m env sl s A)(hx:tH sc y=true)(hi:ja m y=some i)(rv:VR X v p){Q:Unit->Shared->Prop}(q:∀{s'},Ext X s (own sc env) X s'->At w n X η sc m env (put sl i (some p)) s' A->Q () s'):wpAny (model pw w) A (storeName env y v) Q E s:=
 afM hx C.B C.F rv λe B F=>q e ⟨B,F.at (.refl X) (λJ ho n=>⟨ho,n⟩) λ{z u} g=>jg g λj hj g=>by
  by_cases c:z=y
  ·subst c
   obtain rfl:=ai (hj.symm.trans hi)
   exact (if_pos rfl).trans (congrArg some ((JS g).elim (λz=>z.2.symm) λz=>absurd rfl z.1))
  ·exact (if_neg c).trans ((JS g).elim (λz2=>absurd (T3 C.o (z2.1▸hj) hi) c) λz2=>(congrArg (·.bind (look sl)) hj).trans z2.2),C.R,C.o⟩
theorem T4:∀{ts:List Expr} {is:List Nat},wX sc m ts=some is->(assignEach ts env).length=is.length/\(assignEach ts env).findIdx? (·.1)=none
|[],_,h=>ai h▸⟨rfl,rfl⟩
|e::ts,_,h=>jg h λy h1 h=>xc h λc h=>jg h λi h2 h=>jq h λis h3 h4=>(Fd h1).elim λp e1=>by
  have z:=T4 h3
  subst e1 h4
  refine ⟨congrArg (·+1) z.1,?_⟩
  show ((false,assign (.Name y p) env)::assignEach ts env).findIdx? (·.1)=none
  rw [iD,z.2]
  rfl
theorem JT:∀{is:List Nat} {ps:List PV} {sl kT:Sl},sG is ps sl=some kT->is.length=ps.length
|[],[],_,_,_=>rfl
|_::_,_::_,_,_,h=>congrArg (·+1) (JT (show sG _ _ (put _ _ _)=_ from h))
|[],_::_,_,_,h=>xn h
|_::_,[],_,_,h=>xn h
theorem agN:∀{is:List Nat} {vs:List Value} {ps:List PV} {sl:Sl} {s:Shared} {Q:Unit->Shared->Prop},wX sc m ts=some is->sG is ps sl=some kT->At w n X η sc m env sl s A->jr X vs ps->(∀{s'},Ext X s (own sc env) X s'->At w n X η sc m env kT s' A->Q () s')->
  wpAny (model pw w) A (assignInOrder ((assignEach ts env).map (·.2)) vs) Q E s:=by
 induction ts with
|nil=>
  intro is vs ps sl s Q h hp C rs q
  obtain rfl:=ai h
  cases ps with
 |nil=>exact oM (R:=λvs=>wpAny (model pw w) A (assignInOrder ((assignEach [] env).map (·.2)) vs) Q E s) rs (wpAny_pure (q (.refl ..) (ai hp▸C)))
 |cons _ _=>exact xn hp
|cons e ts ih=>
  refine λ{is vs ps sl s Q} h hp C rs q=>jg h λy h1 h=>xc h λc h=>jg h λi h2 h=>jq h λCd h3 h4=>(Fd h1).elim λp e1=>?_
  cases ps with
 |nil=>exact xn (h4▸hp)
 |cons p ps=>exact e1▸mK (R:=λvs=>wpAny (model pw w) A (assignInOrder ((assignEach (.Name y _::ts) env).map (·.2)) vs) Q E s) rs λv us r rs=>wpAny_bind (wpAny_holding (wpAny_assign_Name (C.bind c h2 r λe1 C1=>ih h3 (show sG Cd ps (put sl i (some p))=some kT from (h4▸hp :)) C1 rs λe2=>q (e1.trans e2))))
theorem agO{t:Expr}{tg:Tg}(h:vY sc m t=some tg)(hb:tg.bind p sl=some kT)(C:At w n X η sc m env sl s A)(rv:VR X v p)(x:oP X s.heap I k S){Q:Unit->Shared->Prop}(q:∀{s'},Ext X s (own sc env) X s'->At w n X η sc m env kT s' A->Q () s'):
  wpAny (model pw w) A (letOwnedTupleGo t (.ref I) v) (λJ s₁=>wpAny (model pw w) A (assign t env v) Q E s₁) E s:=by
 unfold vY at h
 refine xo (BF t) (λe=>?_) λts e=>?_
 ·rw [e] at h
  exact jg h λy h1 h=>xc h λc h=>jq h λi h2 h3=>(Fd h1).elim λps e1=>by
   subst e1 h3
   exact wpAny_pure (wpAny_assign_Name (C.bind c h2 rv (ai hb▸q)))
 ·rw [e] at h
  refine jq h λis h2 h3=>(TY e).elim λc e1=>e1.elim λps e1=>?_
  subst e1 h3
  cases p with
 |tup l=>
   refine vU rv λa vs m e rs=>agM x ?_
   have z:=T4 (env:=env) h2
   refine wpAny_assign_Tuple C.R.h (vE (C.B.fz e)) (z.1.trans ((JT hb).trans rs.length.symm)) z.2 λh' eb=>?_
   have E1:Ext X s (own sc env) X { s with heap:=h' }:=(Ext.refl X s _).but (t:=s.toks) (bJ (ak _)) eb
   exact agN (s:={ s with heap:=h' }) h2 hb ⟨C.B.extBut (C.B.off (ak _)) eb,C.F.at (.refl X) (λ{a o} _ ho nt=>⟨eb a o (bI (cH ho)) ho,nt⟩) id,C.R,C.o⟩ rs λe2=>q (E1.trans e2)
 |_=>exact xn hb
end
end
section
open PySem.SeqAt
def nq(names:List (Str×NameKind))(x:Str):Bool:=names.any λp=>decide (p.2=.free) && sq p.1 x
def qP(env:Env):List (Str×NameKind)->List (Str×Addr)->List (Str×Addr)
|[],cs=>cs
|p::r,cs=>qP env r (cond (decide (p.2=.free)) ((p.1,(env.cells.lookup p.1).getD 0)::cs) cs)
abbrev agP(jo:Scope)(env:Env)(C:Addr):Env:={ newEnv jo C env.globals (qP env jo.names []) env.qual none .none (some env) builtinsNs with scope:=relabel jo env }
noncomputable def zY(e:Expr)(em:Sem Unit)(tg iter:Expr)(ifs:List Expr)(it acc:Value)(lQ:Env):Sem Fin:=do
 standAt iter.pos
 match <-pyNext it with
|none=>pure (.done .next)
|some v=>
  letOwnedTupleGo tg it v
  assign tg lQ v
  let mut ok:=true
  for c in ifs do
   if ok then ok <-isTrue c lQ (eval c lQ)
  if ok then
   em
  again (.compLoop e 0 it acc lQ)
noncomputable def JV(elt:Expr)(acc:Value)(lQ:Env):Sem Unit:=do let _ <-call (.builtin "list.append") [acc,<-eval elt lQ]
noncomputable def JW(kx vx:Expr)(D:Addr)(lQ:Env):Sem Unit:=do
 let kv <-eval kx lQ
 let vv <-holding [kv] (eval vx lQ)
 standAt { kx.pos with endLine:=vx.pos.endLine,endCol:=vx.pos.endCol }
 holding [kv,vv] (dictSet D kv vv)
section
variable{w:World}{f t:Cf}{sc jo:Scope}{m m':Sm}{env lQ:Env}{sl kT:Sl}{X Y:Em}{iY:AH}{s s' s₁:Shared}{P:PV->AH->Prop}{Q:Value->Shared->Prop}{E:Value->Shared->Prop}{e iter:Expr}{ifs:List Expr}{pos:Pos}{i k:Nat}{v u:Value}{p q:PV}{a I D:Addr}{l:List PV}{S:Src}{h:Heap}{o:Obj}
theorem agQ(T:oj w n t){es:List Expr}:∀{xs:Xs} {X:Em} {η:AH} {s:Shared} {P:Bool->AH->Prop} {Q:Bool->Shared->Prop},oi (t sc m) es=some xs->At w n X η sc m env sl s A->TL n xs sl η P->Kt w n X sc m env sl s A P Q->
  wpAny (model pw w) A (forIn es true λc r=>if r=true then do let ok <-isTrue c env (eval c env);pure (cB ok) else pure (cB r)) Q E s:=by
 have skip:∀(es:List Expr) {s:Shared} {Q:Bool->Shared->Prop},Q false s->wpAny (model pw w) A (forIn es false λc r=>if r=true then do let ok <-isTrue c env (eval c env);pure (cB ok) else pure (cB r)) Q E s:=by
  intro es
  induction es with
 |nil=>exact λh=>wpAny_pure h
 |cons e es ih=>
   intro s Q h
   rw [eZ]
   exact wpAny_bind (wpAny_pure (ih h))
 induction es with
|nil=>
  intro xs X η s P Q h C hw q
  obtain rfl:=ai h
  exact wpAny_pure (q (.refl ..) C hw)
|cons e es ih=>
  intro xs X η s P Q h C hw q
  rw [eZ]
  refine jg h λx h1 h=>jq h λxs' h2 h3=>?_
  subst h3
  exact wpAny_bind (wpAny_bind (T (R:=λb η=>(b=true->TL n xs' sl η P)/\(b=false->P false η)) h1 C hw (λh=>h) λ{b _ _ _} e1 C1 hw=>wpAny_pure (match b,hw with
  |true,hw=>ih h2 C1 (hw.1 rfl) λe2=>q (e1.trans e2)
  |false,hw=>skip es (q e1 C1 (hw.2 rfl)))))
def Ce(w:World)(n:Nat)(A:Around)(jo:Scope)(m:Sm)(lQ:Env)(D:Addr)(r i:Nat)(em:Sem Unit)(EM:Sl->AH->(AH->Prop)->Prop):Prop:=
 ∀{Y sl η s P E} {Q:Unit->Shared->Prop},EM sl η P->At w n Y η jo m lQ sl s A->Y.ad r i false=some D->(∀{s' Z iY},Ext Y s no Z s'->At w n Z iY jo m lQ sl s' A->P iY->Q () s')->wpAny (model pw w) A em Q E s
theorem At.nx{t:Nat}(C:At w n X η sc m env sl s A)(hT:¬ X.kH I)(hn:¬ yt env I)(eb:dH I s.heap h'):At w n X η sc m env sl { s with heap:=h',toks:=t } A:=
 ⟨C.B.extBut hT eb,C.F.at (.refl X) (λ{a o} ha ho nt=>⟨eb a o (λq=>hn (q▸ha)) ho,nt⟩) id,C.R,C.o⟩
section
variable{rE:Em}{qb:Shared}{F:Addr->Prop}(hI:qb.heap.get? I=none)(hO:∀a o,qb.heap.get? a=some o->¬ rE.kH a->own sc env a->F a)(hn:¬ yt env I)(ht:vY sc m tg=some nD)(E0:Ext rE qb F X s)(C:At w n X η sc m env sl s A)(x:oP X s.heap I k S)(hT:¬ X.kH I)
include hI hO hn ht E0 C x hT
theorem T5{o:Option PV}{Q:Option Value->Shared->Prop}(h:S.at k η=some o)(qn:o=none->∀{s'},Ext rE qb F X s'->At w n X η sc m env sl s' A->Q none s')
  (qs:∀{p},o=some p->∀{v s'},(∀{kT} {Q:Unit->Shared->Prop} {E},nD.bind p sl=some kT->(∀{s'},Ext rE qb F X s'->At w n X η sc m env kT s' A->oP X s'.heap I (k+1) S->Q () s')->wpAny (model pw w) A (letOwnedTupleGo tg (.ref I) v) (λJ s₁=>wpAny (model pw w) A (assign tg env v) Q E s₁) E s')->Q (some v) s') :
  wpAny (model pw w) A (pyNext (.ref I)) Q E s:=by
 cases o with
|none=>exact agK C.B x C.R.h h λeb=>qn rfl (E0.but (t:=s.toks) hI eb) (C.nx (t:=s.toks) hT hn eb)
|some p=>exact agL C.B x h λeb rv x2=>qs rfl λhb q=>agO ht hb (C.nx hT hn eb) rv x2 λe2 C2=>q ((E0.but hI eb).into e2 hO) C2 (x2.mono (.refl X) λo ho=>e2.keep I o ho hT λq=>hn (EA q))
theorem agR{em:Sem Unit}{EM:Sl->AH->(AH->Prop)->Prop}{xs:Xs}{PP:AH->Prop}{QF:Fin->Shared->Prop}(T:oj w n t)(Cg:Ce w n A sc m env D r i em EM)(hi:oi (t sc m) ifs=some xs)(hD:X.ad r i false=some D)
  (hw:o5 (TL n xs) EM nD S (fuel+1) k sl η PP) (qd:∀{s'},Ext rE qb F X s'->At w n X η sc m env sl s' A->PP η->QF (.done .next) s')
  (qa:∀{s' Y kT iY},o5 (TL n xs) EM nD S fuel (k+1) kT iY PP->Ext rE qb F Y s'->At w n Y iY sc m env kT s' A->oP Y s'.heap I (k+1) S->¬ Y.kH I->Y.ad r i false=some D->QF (.again (.compLoop e 0 (.ref I) (.ref D) env)) s'):wpAny (model pw w) A (zY e em tg iter ifs (.ref I) (.ref D) env) QF E s:=by
 refine wpAny_bind (wpAny_standAt (wpAny_bind (ay hw λo z=>T5 hI hO hn ht E0 C x hT z.1 (λe {_} E1 C1=>?_) λ{p} e {v s1} hs=>?_)))
 ·subst e
  exact wpAny_pure (qd E1 C1 z.2)
 ·subst e
  refine ay z.2 λkT z=>wpAny_bind (wpAny_mono (hs z.1 λ{s3} E3 C3 x3=>?_) (λJ J h=>wpAny_bind h) λJ J x=>x)
  clear hs
  have up:∀{Y s'},Ext X s3 no Y s'->Ext rE qb F Y s'/\oP Y s'.heap I (k+1) S/\¬ Y.kH I/\Y.ad r i false=some D:=λ{Y s'} e=>x3.elim λo y=>⟨E3.trans e.up,x3.mono e.le λo ho=>e.keep I o ho hT id,e.off y.1 hT,e.le.ad hD⟩
  refine wpAny_bind (agQ T (P:=λb η=>(b=true->EM kT η λη=>o5 (TL n xs) EM nD S fuel (k+1) kT η PP)/\(b=false->o5 (TL n xs) EM nD S fuel (k+1) kT η PP)) hi C3 z.2 λ{b s4 Z zZ} e4 C4 hw=>?_)
  have U:=up e4
  cases b with
 |false=>exact wpAny_pure (qa (hw.2 rfl) U.1 C4 U.2.1 U.2.2.1 U.2.2.2)
 |true=>exact wpAny_bind (Cg (hw.1 rfl) C4 U.2.2.2 λe5 C5 hw=>have U:=up (e4.trans e5);wpAny_pure (qa hw U.1 C5 U.2.1 U.2.2.1 U.2.2.2))
theorem agS{em:Sem Unit}{EM:Sl->AH->(AH->Prop)->Prop}{xs:Xs}{PP:AH->Prop}{R:Result->Shared->Prop}(T:oj w n t)(Cg:Ce w n A sc m env D r i em EM)(hi:oi (t sc m) ifs=some xs)(hD:X.ad r i false=some D)
  (JX:compTurn e 0 (.ref I) (.ref D) env=zY e em tg iter ifs (.ref I) (.ref D) env) (JY:(eu e 0 (.ref I) (.ref D) env).isFrame=false) (JZ:A.under (eu e 0 (.ref I) (.ref D) env)=A)
  (hw:o5 (TL n xs) EM nD S fuel k sl η PP) (q:∀{s' Y kT iY},Ext rE qb F Y s'->At w n Y iY sc m env kT s' A->Y.ad r i false=some D->PP iY->R (.ok .next) s'):codeAny (model pw w) A (.compLoop e 0 (.ref I) (.ref D) env) R s:=by
 refine codeAny_loop rfl (λnR s'=>∀G:Prop,(∀Y sl η k,o5 (TL n xs) EM nD S nR k sl η PP->Ext rE qb F Y s'->At w n Y η sc m env sl s' A->oP Y s'.heap I k S->¬ Y.kH I->Y.ad r i false=some D->G)->G) ?_ fuel λJ q=>q X sl η k hw E0 C x hT hD
 clear hw E0 C x hT hD
 intro nR s₁ g
 have hd:(model pw w).den (.compLoop e 0 (.ref I) (.ref D) env)=(zY e em tg iter ifs (.ref I) (.ref D) env).onRaise (λx=>do noteFrame x env;theTreesLotGoes x):=by
  show (if (eu e 0 (.ref I) (.ref D) env).isFrame=true then _ else _)=_
  rw [JY,<-JX]
  rfl
 rw [hd,JZ]
 refine wpAny_noted (g _ λY sl η k hw E C x hT hD=>?_)
 cases nR with
|zero=>exact hw.elim
|succ nR=>exact agR hI hO hn ht E C x hT T Cg hi hD hw (λe C h=>q e C hD h) λhw e C x hT hD=>⟨rfl,nR,bG nR,λJ q=>q _ _ _ _ hw e C x hT hD⟩
end
theorem agT{y:Str}(h:nq names y=true):(y,gh)∈names:=(c9.mp h).elim λp z=>xb z.2 λa b=>by
 have e:p=(y,.free):=dQ (jS.mp b) (of_decide_eq_true a)
 exact e▸z.1
theorem T6(y:Str):∀{cs:List (Str×Addr)},(qP env names cs).lookup y=cond (nq names y) (some ((env.cells.lookup y).getD 0)) (cs.lookup y):=by
 induction names with
|nil=>exact rfl
|cons p r ih=>
  intro cs
  refine ih.trans ?_
  show _=cond ((decide (p.2=.free) && sq p.1 y) || nq r y) _ _
  cases decide (p.2=.free) with
 |false=>rfl
 |true=>
   show cond (nq r y) _ (match y == p.1 with|true=>some _|false=>cs.lookup y)=cond (sq p.1 y || nq r y) _ _
   by_cases q:y=p.1
   ·subst q
    rw [jS.mpr rfl,beq_self_eq_true]
    cases nq r p.1<;>rfl
   ·rw [beq_eq_false_iff_ne.mpr q,uC,decide_eq_false (cX q)]
    rfl
theorem agU(h:∀{y},nq jo.names y=true->∃c,env.cells.lookup y=some c):closureFor jo env=pure (qP env jo.names []):=by
 have go:∀(names:List (Str×NameKind)) (cs:List (Str×Addr)),(∀{y},nq names y=true->∃c,env.cells.lookup y=some c)->(forIn names cs λ(p:Str×NameKind) cs=>(do
  if p.2 == .free then pure (cB ((p.1,<-cellOf env p.1)::cs)) else pure (cB cs):Sem (ForInStep (List (Str×Addr)))))=pure (qP env names cs):=by
  intro names
  induction names with
 |nil=>exact λJ J=>rfl
 |cons p r ih=>
   intro cs h
   have ih:=λcs=>ih cs λ{y} z=>h (y:=y) ((congrArg ((decide (p.2=.free) && sq p.1 y) || ·) z).trans (Bool.or_true _))
   rw [eZ]
   refine xd (decide (p.2=.free)) (λc=>?_) λc=>?_
   ·have e:qP env (p::r) cs=qP env r ((p.1,(env.cells.lookup p.1).getD 0)::cs):=congrArg (λb=>qP env r (cond b _ cs)) c
    rw [e,<-ih,if_pos (show (p.2 == .free)=true from c)]
    obtain ⟨a,ha⟩:=h (y:=p.1) (show ((decide (p.2=.free) && sq p.1 p.1) || nq r p.1)=true by rw [c,jS.mpr rfl];rfl)
    rw [show cellOf env p.1=pure a by unfold cellOf;rw [ha],ha,pure_bind,pure_bind]
    rfl
   ·have e:qP env (p::r) cs=qP env r cs:=congrArg (λb=>qP env r (cond b _ cs)) c
    rw [e,<-ih,if_neg (show ¬ (p.2 == .free)=true from λz=>xf (c.symm.trans z)),pure_bind]
 exact (congrArg (λm=>m >>= λcs=>pure cs) (go jo.names [] h)).trans (pure_bind _ _)
theorem mE{α:Type _}{c:Bool}{x y z:α}{P:Prop}(h:cond c x y=z)(k:c=true->x=z->P)(f:c=false->y=z->P):P:=by
 cases c
 ·exact f rfl h
 ·exact k rfl h
theorem J0{p:Str×NameKind}{ns:List (Str×NameKind)}{y:Str}{G:Prop}(h:nq (p::ns) y=true)(k:p.2=.free->p.1=y->G)(f:nq ns y=true->G):G:=
 ((bC ..).mp h).elim (λh=>xb h λa b=>k (of_decide_eq_true a) (jS.mp b)) f
theorem J1{p:Str×NameKind}{ns:List (Str×NameKind)}{y:Str}(h:nq ns y=true):nq (p::ns) y=true:=(bC ..).mpr (.inr h)
theorem T7:∀{b:Nat} {q:Sm×List Nat×List Nat},wY sc m b names=some q->
  (∀{y},nq names y=true->(kindS sc y=some .cell\/kindS sc y=some .free)/\(allB sl q.2.2=true->∃p,yE m sl y=some p))/\∀{y i},ja q.1 y=some i->i∈q.2.1\/(nq names y=true/\ja m y=some i):=by
 induction names with
|nil=>exact λh=>ai h▸⟨λh=>xf h,λh=>xn h⟩
|cons p r ih=>
  refine λ{b q} h=>mE h (λc h=>jq h λq' h1 e=>?_) λc h=>mE h (λc h=>jg h λi hi h=>jg h λkd hk h=>xc h λck h=>jq h λq' h1 e=>?_) λc h=>?_
  ·have z:=ih h1
   exact e▸⟨λ{y} hy=>J0 hy (λa J=>nomatch a.symm.trans (of_decide_eq_true c)) z.1,λ{y i} hy=>mE (show cond (sq p.1 y) (some b) (ja q'.1 y)=_ from hy) (λJ hy=>.inl (ai hy▸bL ..)) λJ hy=>(z.2 hy).imp (bu _) λz=>⟨J1 z.1,z.2⟩⟩
  ·have z:=ih h1
   exact e▸⟨λ{y} hy=>J0 hy (λJ a=>a▸⟨((bC ..).mp ck).imp (λz=>hk.trans (congrArg some (of_decide_eq_true z))) λz=>hk.trans (congrArg some (of_decide_eq_true z)),λha=>xb (show ((look sl i).isSome && allB sl q'.2.2)=true from ha) λha J=>(cz.mp ha).elim λu hu=>⟨u,(congrArg (·.bind (look sl)) hi).trans hu⟩⟩) λhy=>⟨(z.1 hy).1,λha=>xb (show ((look sl i).isSome && allB sl q'.2.2)=true from ha) λJ ha=>(z.1 hy).2 ha⟩,
    λ{y i'} hy=>mE (show cond (sq p.1 y) (some i) (ja q'.1 y)=_ from hy) (λc2 hy=>.inr ⟨(bC ..).mpr (.inl (show (decide (p.2=.free) && sq p.1 y)=true by rw [c,c2];rfl)),ai hy▸jS.mp c2▸hi⟩) λJ hy=>(z.2 hy).imp id λz=>⟨J1 z.1,z.2⟩⟩
  ·have z:=ih h
   exact ⟨λ{y} hy=>J0 hy (λa J=>xf (c.symm.trans (decide_eq_true a))) z.1,λhy=>(z.2 hy).imp id λz=>⟨J1 z.1,z.2⟩⟩
theorem T8{u:PV}:∀{sl:Sl} {i j:Nat},look (put sl i none) j=some u->j≠i/\look sl j=some u
|[],_,_,h=>xn h
|_::_,0,0,h=>xn h
|_::_,0,j+1,h=>⟨OI,h⟩
|_::_,i+1,0,h=>⟨OJ,h⟩
|_::r,i+1,j+1,h=>(T8 (sl:=r) h).imp (λz e=>z (dK e)) id
theorem agV{u:PV}{ls:List Nat}:∀{sl:Sl},look (clear sl ls) j=some u->j∉ls/\look sl j=some u:=by
 induction ls with
|nil=>exact λh=>⟨aU,h⟩
|cons i r ih=>exact λh=>(ih h).elim λa b=>(T8 b).elim λc d=>⟨λe=>(aB.mp e).elim c a,d⟩
theorem agW{b:Nat}{q:Sm×List Nat×List Nat}(h:wY sc m b jo.names=some q){y:Str}(g:yE q.1 (clear sl q.2.1) y=some p):nq jo.names y=true/\yE m sl y=some p:=
 jg g λi hi hl=>jB (agV hl) λhn hl=>((T7 (sl:=sl) h).2 hi).elim (λz=>absurd z hn) λz=>⟨z.1,(congrArg (·.bind (look sl)) z.2).trans hl⟩
theorem agX:Qz=("__debug__":Str):=by decide +kernel
theorem agY:QB=("__classdict__":Str):=by decide +kernel
theorem T9(h:IU jo=true){y:Str}{k:NameKind}(hk:kindS jo y=some k):(y == ("__debug__":Str))=false/\(y == ("__classdict__":Str))=false:=
 have Ua:∀{z:Str},(!(sq y z))=true->(y == z)=false:=λ{z} h=>IZ y z▸((cM _).mp h)
 xb (aI.mp h _ (tS hk)) λa b=>⟨agX▸Ua a,agY▸Ua b⟩
theorem agZ{F:Str×NameKind->Str×NameKind}{g:Str->NameKind->NameKind}(hf:∀p,F p=(p.1,g p.1 p.2))(y:Str)(l:List (Str×NameKind)):(l.map F).lookup y=(l.lookup y).map (g y):=by
 induction l with
|nil=>rfl
|cons p r ih=>
  rw [bT,hf,bB,bB,ih]
  by_cases q:y=p.1
  ·rw [q,beq_self_eq_true];rfl
  ·rw [beq_eq_false_iff_ne.mpr q]
theorem ag0{y:Str}{k:NameKind}(h:kindS jo y=some k):(relabel jo env).names.lookup y=some k\/k=.free/\(relabel jo env).names.lookup y=some .cell:=by
 rw [show (relabel jo env).names.lookup y=_ from agZ (g:=λy k=>if (k == gh && env.scope.kind == .function && env.kindOf y == some .cell) then .cell else k) (λp=>by
  show (if _ then _ else _)=_
  split<;>rfl) y jo.names,<-wO,show ja jo.names y=some k from h]
 by_cases c:(k == gh && env.scope.kind == .function && env.kindOf y == some .cell)=true
 ·exact .inr ⟨xb c λc J=>xb c λc J=>beq_iff_eq.mp c,congrArg some (if_pos c)⟩
 ·exact .inl (congrArg some (if_neg c))
theorem Ub{ρ:Vw}(F:Fr X sc env ρ h)(fa:∀{y},nq jo.names y=true->kindS sc y=some .cell\/kindS sc y=some .free){y:Str}{c:Addr}(q:(qP env jo.names []).lookup y=some c):nq jo.names y=true/\env.cells.lookup y=some c:=
 mE ((T6 y).symm.trans q) (λhy q=>⟨hy,(F.cl (fa hy)).elim λa ha=>ha.trans (congrArg (λo:Option Addr=>some (o.getD 0)) ha▸q)⟩) λJ q=>xn q
theorem ag1{ρ BU:Vw}{C:Addr}(F:Fr X sc env ρ h)(hc:Ek jo=true)(fa:∀{y},nq jo.names y=true->kindS sc y=some .cell\/kindS sc y=some .free)(fb:∀{y p},BU y=some p->nq jo.names y=true/\ρ y=some p)(ag2:h'.Ns C (λJ=>none))(hold:∀{a o},h.get? a=some o->h'.get? a=some o)(hC:¬ X.kH C)(hCn:h.get? C=none):Fr X jo (agP jo env C) BU h':=
 xb hc λc c3=>xb c λc1 c2=>by
 have nm:∀{y k},kindS jo y=some k->k≠.cell/\(k=.free->nq jo.names y=true):=λ{y k} hk=>xb (aI.mp c3 _ (tS hk)) λa b=>⟨of_decide_eq_false ((cM _).mp a),λe=>c9.mpr ⟨_,tS hk,by rw [e,jS.mpr rfl];rfl⟩⟩
 have kf:∀{y},nq jo.names y=true->kindS jo y=some .free:=λhy=>xb (aI.mp c3 _ (agT hy)) λJ b=>of_decide_eq_true b
 have cell:∀{y c},(qP env jo.names []).lookup y=some c->nq jo.names y=true/\env.cells.lookup y=some c:=Ub F fa
 have has:∀{y c},nq jo.names y=true->env.cells.lookup y=some c->(qP env jo.names []).lookup y=some c:=λhy q=>by
  rw [T6,hy,q]
  rfl
 exact {
  k:=of_decide_eq_true c2
  g:=F.g
  b:=F.b
  kd:=ag0
  db:=T9 c1
  ns:=⟨_,ag2,λhk hp=>nomatch hk.symm.trans (kf (fb hp).1)⟩
  ut:=hC
  ce:=λq=>have z:=F.ce (cell q).2;⟨z.1,λe=>z.2.2.elim λv y=>y.elim λo y=>xm ((e▸y.1).symm.trans hCn),z.2.2.elim λv y=>⟨v,yu y λo=>hold⟩⟩
  ap:=λq q'=>F.ap (cell q).2 (cell q').2
  cv:=λJ hp=>have z:=fb hp;(F.cv (fa z.1) z.2).elim λc y=>y.elim λv y=>⟨c,v,has z.1 y.1,yu y.2.1 λo=>hold,y.2.2⟩
  cl:=λhk=>hk.elim (λhk=>absurd rfl (nm hk).1) λhk=>have hy:=(nm hk).2 rfl;(F.cl (fa hy)).elim λc z=>⟨c,has hy z⟩ }
end
end
section
open PySem.SeqAt
section
variable{w:World}{f t:Cf}{sc jo:Scope}{m:Sm}{env:Env}{sl:Sl}{X Y:Em}{iY:AH}{s s' s₁:Shared}{P:PV->AH->Prop}{Q:Value->Shared->Prop}{E:Value->Shared->Prop}{x it:Internal.X}{e iter:Expr}{ifs:List Expr}{pos Ch:Pos}{i k:Nat}{v u:Value}{p:PV}{a I D:Addr}{h:Heap}{o:Obj}
theorem Ext.none(e:Ext X s no Y s')(B:Base w Y η s'.heap)(h:s'.heap.get? a=none):s.heap.get? a=none:=xo _ id λo q=>xm ((e.keep a o q (λt=>(B.Qt (e.le.trk t)).elim λJ q=>xm (q.symm.trans h)) id).symm.trans h)
theorem Uc(h:BD e=true)(x:Value):foldedSetIterable e env x=pure x:=by
 cases e<;>first|rfl|exact xf h
theorem Ud{q:Sm×List Nat×List Nat}{Ue:AO}{xs:Xs}{Ug:Sem Value}{em:Addr->Env->Sem Unit}{EM:AH->Sl->AH->(AH->Prop)->Prop}{use:Option (Value->Sem Unit)}(H:kK w n f)(T:oj w n t)
  (hcl:clausesOf e=[⟨tg,iter,ifs,0⟩]) (JX:∀I D lQ,compTurn e 0 (.ref I) (.ref D) lQ=zY e (em D lQ) tg iter ifs (.ref I) (.ref D) lQ)
  (JY:∀I D lQ,(eu e 0 (.ref I) (.ref D) lQ).isFrame=false) (JZ:∀A I D lQ,Around.under A (eu e 0 (.ref I) (.ref D) lQ)=A)
  (ag3:∀{it acc lQ s} {P:Result->Shared->Prop},codeAny (model pw w) A (.compLoop e 0 it acc lQ) P s->wpAny (model pw w) A (pyIter it) (λit' s'=>codeAny (model pw w) A (.compLoop e 0 it' acc lQ) P s') (notedBy (model pw w) A lQ λx s'=>P (.error x) s') s->codeAny (model pw w) A (.compStart e 0 it acc lQ) P s)
  (z0:∀{Y:Em} {lG:Shared} {η:AH} {Q:Value->Shared->Prop} {E:Value->Shared->Prop},Base w Y η lG.heap->(∀{v s'},GE w Y lG (η.add Ue) (.ref η.reg η.iZ) v s'->Q v s')->wpAny (model pw w) A Ug Q E lG)
  (Cg:∀{η:AH} {D lQ},Ce w n A jo q.1 lQ D η.reg η.iZ (em D lQ) (EM η))
  (hc:Ek jo=true) (t8:BD iter=true) (h1:f sc m iter=some it) (h2:wY sc m (JJ m) jo.names=some q) (ho:wW q.1=true) (ht:vY jo q.1 tg=some nD) (hi:oi (t jo q.1) ifs=some xs) (C:At w n X η sc m env sl s A)
  (hw:W n it sl η λiv η=>∃S,tG iv η=some S/\allB sl q.2.2=true/\o5 (TL n xs) (EM η) nD S (S.len η+1) 0 (clear sl q.2.1) (η.add Ue) λiY=>P (.ref η.reg η.iZ) iY)
  (hQ:∀{D K s' Z p iY},s.heap.get? K=none->Ext X s no Z s'->At w n Z iY sc m env sl s' A->VR Z (.ref D) p->¬ Z.kH K->(∃m,s'.heap.Ns K m)->P p iY->compPost (model pw w) A E use Q (.ref D) K (.ok .next) s') :
  wpAny (model pw w) A (comprehension e jo env Ch Ug false (eval iter env) use) Q E s:=by
 have fa:∀{y},nq jo.names y=true->kindS sc y=some .cell\/kindS sc y=some .free:=λhy=>((T7 (sl:=sl) h2).1 hy).1
 refine xb hc λc c3=>xb c λJ c2=>?_
 have nm:∀x∈jo.names,x.2≠.cell/\kindS jo x.1=some x.2:=λx hx=>xb (aI.mp c3 _ hx) λa b=>⟨of_decide_eq_false ((cM _).mp a),of_decide_eq_true b⟩
 have c2:=of_decide_eq_true c2
 refine wpAny_comprehension_free hcl (Uc t8) (agU λhy=>C.F.cl (fa hy)) c2 (λx hx e=>(wO ..).symm.trans (e▸(nm x hx).2)) (H.go h1 C hw λ{v s1 Y iv Fe} e1 C1 r1 hw=>hw.elim λS z=>TV C1.B r1 z.1 λ{ob} hit=>?_)
 have nI:=bJ (h:=s1.heap) (ak _)
 have tI:=C1.B.Ef nI
 have yG:=e1.none C1.B nI
 revert hit nI tI yG
 generalize s1.heap.objs.size=I
 intro hit nI tI yG
 refine z0 (C1.B.push ob) λ{acc s3} g=>g.casesOn λ{Z} e3 B3 r3=>vR r3 λD hD=>?_
 have J2:=(e1.trans (.push (t:=s1.toks) ..)).trans e3
 refine wpAny_newFunctionEnv (λx hx=>(nm x hx).1) (by intro y hy;simp at hy) (λh' ag4 ag5=>?_) c2
 have hK:=bJ (h:=s3.heap) (ak _)
 have tK:=B3.Ef hK
 have hold:∀{a o},s3.heap.get? a=some o->h'.get? a=some o:=λho=>(ag5.2 _ (bI (cH ho))).trans (bS _ ho)
 have Uh:=J2.none B3 hK
 have Ui:oP Z h' I 0 S:=hit.mono e3.le λo ho=>hold (e3.keep I o ho tI id)
 have tI4:¬ Z.kH I:=hit.elim λo y=>e3.off y.1 tI
 have F4:=ag1 (env:=env) (C:=s3.heap.objs.size) (C.F.ext J2) hc fa (λg=>agW h2 g) ag4 hold tK hK
 have e4:Ext X s no Z { s3 with heap:=h',toks:=s3.toks+0 }:=J2.trans (.grow (λJ J=>hold) rfl rfl)
 have loop:=agS (E0:=e4) (R:=compPost (model pw w) A E use Q (.ref D) s3.heap.objs.size) yG (λa o ho J q=>q.elim (λq=>xm (ho.symm.trans (q▸Uh))) λq=>q.elim λy q=>absurd rfl (nm _ (tS q.1)).1)
  (λq=>q.elim (λq=>hit.elim λo y=>xm ((e3.keep I o y.1 tI id).symm.trans (q▸hK))) λq=>q.elim λy q=>(C.F.ce (Ub C.F fa q).2).2.2.elim λv z=>z.elim λo z=>xm (z.1.symm.trans yG)) ht
  ⟨B3.move λJ=>hold,F4,C.R,ho⟩ Ui tI4 T Cg hi hD (JX I D _) (JY I D _) (JZ A I D _) z.2.2 λe C' hD h=>hQ Uh e (C.next e C'.B) (.ref hD) C'.F.ut (C'.F.ns.elim λm z=>⟨m,z.1⟩) h
 exact ag3 loop (TX (s:={ s3 with heap:=h',toks:=s3.toks+0 }) Ui loop)
theorem ag6(h:wL r i p η=some iY)(B:Base w X η s.heap)(hD:X.ad r i false=some D)(rv:VR X v p)(q:∀{v s'},Ext X s no X s'->Base w X iY s'.heap->Q v s'):wpAny (model pw w) A (call (.builtin "list.append") [.ref D,v]) Q E s:=
 jg h λl g h=>xc h λc h=>xh B (.ref hD) g λvs n ea e rs=>call_meets PySem.F.slot_list_append ⟨_,e,rfl⟩ PySem.F.entry_list_append (PySem.F.args_list_append_2 _ _) (list_append D vs.toArray n v (xj rs c (aW _))) ⟨e,jB (Fc (us:=vs++[v]) B (vK g) ea e (λxs=>xs.push v) (by simp) (rs.append (.cons rv .nil))) λE1 B1=>q E1 (ai h▸B1)⟩
theorem ag7(H:kK w n f)(h:f sc m elt=some x){lQ:Env}:Ce w n A sc m lQ D r i (JV elt (.ref D) lQ) λe' iY Q'=>W n x e' iY λv kR=>∃jl,wL r i v kR=some jl/\Q' jl:=
 λhw C hD q=>wpAny_bind (H.go h C hw λe1 C1 r1 hw=>hw.elim λjl z=>wpAny_bind (ag6 z.1 C1.B (e1.le.ad hD) r1 λe2 B2=>wpAny_pure (q (e1.trans e2) (C1.next e2 B2) z.2)))
theorem ag8(H:kK w n f){y:Internal.X}(h1:f sc m kx=some x)(h2:f sc m vx=some y){lQ:Env}:Ce w n A sc m lQ D r i (JW kx vx D lQ) λe' iY Q'=>W n x e' iY λkv kR=>W n y e' kR λv jl=>yi (jl.get r i)=true/\∃jH,mV (.ref r i) kv v jl=some jH/\Q' jH:=
 λ{_ _ _ s _ _ _} hw C hD q=>wpAny_bind (H.go h1 C hw λe1 C1 r1 hw=>wpAny_bind (wpAny_holding (H.go h2 C1 hw λ{_ s2 _ _ _} e2 C2 r2 hw=>wpAny_bind (wpAny_standAt (wpAny_holding (hw.2.elim λjH z=>jg (show ((_:AH).get r i).bind _=some _ from z.1) λo g J=>afL (g▸hw.1) g z.1 (e2.le.ad (e1.le.ad hD)) (r1.mono e2.le) r2 C2.B λe3 B3=>q ((e1.trans e2).trans e3) (C2.next e3 B3) z.2))))))
theorem ag9{target:Expr}{scope:Scope}(I D:Addr)(env:Env):
  compTurn (.ListComp elt [⟨target,iter,ifs,0⟩] scope pos) 0 (.ref I) (.ref D) env=zY (.ListComp elt [⟨target,iter,ifs,0⟩] scope pos) (JV elt (.ref D) env) target iter ifs (.ref I) (.ref D) env:=by rfl
theorem aha{target:Expr}{scope:Scope}(I D:Addr)(env:Env):
  compTurn (.DictComp kx vx [⟨target,iter,ifs,0⟩] scope pos) 0 (.ref I) (.ref D) env=zY (.DictComp kx vx [⟨target,iter,ifs,0⟩] scope pos) (JW kx vx D env) target iter ifs (.ref I) (.ref D) env:=by rfl
theorem Uj{gs:List Comprehension}{mk:Sm->Tg->Internal.X->Xs->List Nat->List Nat->Option Internal.X}{M:List Comprehension->Prop}(h:JK f t sc m gs jo mk=some x)
  (k:∀{tg iter ifs it q nD xs},Ek jo=true->BD iter=true->f sc m iter=some it->wY sc m (JJ m) jo.names=some q->wW q.1=true->vY jo q.1 tg=some nD->oi (t jo q.1) ifs=some xs->mk q.1 nD it xs q.2.2 q.2.1=some x->M [⟨tg,iter,ifs,0⟩]):M gs:=by
 cases gs with
|nil=>exact xn h
|cons g gs=>cases gs with
 |cons _ _=>exact xn h
 |nil=>
   refine jg h λg' hg h=>xc hg λc hg=>?_
   obtain rfl:=ai hg
   obtain ⟨tg,iter,ifs,ia⟩:=g
   obtain rfl:ia=0:=of_decide_eq_true c
   exact xc h λc h=>xb c λc1 c2=>jg h λit h1 h=>jg h λq h2 h=>xc h λc3 h=>jg h λnD h3 h=>jg h λxs h4 h=>k c1 c2 h1 h2 c3 h3 h4 h
abbrev Kc(w:World)(n:Nat)(X:Em)(sc:Scope)(m:Sm)(env:Env)(sl:Sl)(s:Shared)(A:Around)(P:PV->AH->Prop)(E:Value->Shared->Prop)(use:Option (Value->Sem Unit))(Q:Value->Shared->Prop):Prop:=
 ∀{D K s' Z p iY},s.heap.get? K=none->Ext X s no Z s'->At w n Z iY sc m env sl s' A->VR Z (.ref D) p->¬ Z.kH K->(∃m,s'.heap.Ns K m)->P p iY->compPost (model pw w) A E use Q (.ref D) K (.ok .next) s'
section
variable{use:Option (Value->Sem Unit)}(H:kK w n f)(T:oj w n t){gs:List Comprehension}(C:At w n X η sc m env sl s A)(hw:W n x sl η P)(hQ:Kc w n X sc m env sl s A P E use Q)
include H T C hw hQ
theorem J3(h:JL f t sc m elt gs jo=some x):wpAny (model pw w) A (comprehension (.ListComp elt gs jo pos) jo env Ch (newList []) (firstAsync gs) (firstIter gs env) use) Q E s:=
 Uj (M:=λgs=>wpAny (model pw w) A (comprehension (.ListComp elt gs jo pos) jo env Ch (newList []) (firstAsync gs) (firstIter gs env) use) Q E s) h λc1 c2 h1 h2 ho ht hi h=>jq h λy h3 e=>Ud (em:=λD=>JV elt (.ref D)) H T rfl ag9 (λJ J J=>rfl) (λJ J J J=>rfl) (λa b=>codeAny_compStart_list a b) (λ{_ lG _ _ _} B q=>wpAny_newObj_type (q (BK (vs:=[]) (n:=0) (t:=lG.toks) B .nil))) (ag7 H h3) c1 c2 h1 h2 ho ht hi C (wx e hw :) hQ
theorem J4(h:JM f t sc m kx vx gs jo=some x):wpAny (model pw w) A (comprehension (.DictComp kx vx gs jo pos) jo env Ch newDict (firstAsync gs) (firstIter gs env) use) Q E s:=
 Uj (M:=λgs=>wpAny (model pw w) A (comprehension (.DictComp kx vx gs jo pos) jo env Ch newDict (firstAsync gs) (firstIter gs env) use) Q E s) h λc1 c2 h1 h2 ho ht hi h=>jg h λy h3 h=>jq h λz h4 e=>Ud (em:=λD=>JW kx vx D) H T rfl aha (λJ J J=>rfl) (λJ J J J=>rfl) (λa b=>codeAny_compStart_dict a b) (λ{_ lG _ _ _} B q=>wpAny_newObj_type (q (QR (t:=lG.toks) B))) (ag8 H h3 h4) c1 c2 h1 h2 ho ht hi C (wx e hw :) hQ
end
theorem Ff(C:At w n X η sc m env sl s A)(k:Kx w n X sc m env sl s A P Q):Kc w n X sc m env sl s A P E none Q:=λ{_ _ s' _ _ _} hK e C' r t hm hp=>hm.elim λms hm=>⟨ms,hm,λh' hs=>have e1:=e.but (t:=s'.toks) hK hs.extBut;k e1 (C.next e1 (C'.B.extBut t hs.extBut)) r hp⟩
end
end
section
open PySem.SeqAt
section
variable{w:World}{f t:Cf}{sc:Scope}{m:Sm}{env:Env}{sl:Sl}{X Y:Em}{iY:AH}{s s':Shared}{P:PV->AH->Prop}{Q:Value->Shared->Prop}{E:Value->Shared->Prop}{x:Internal.X}{e:Expr}{es args:List Expr}{pos:Pos}
theorem ahb{M:PV->Prop}{fv:PV}(h:callee tab fv=true)(r:∀a,(jv tab.pG a).isSome=true\/(jv tab.oA a).isSome=true->M (.st (.ref a)))(b:∀id,M (.st (.builtin id)))(t:∀id,M (.st (.type id))):M fv:=by
 induction fv using PV.casesOn with
|st v=>
  induction v using Value.casesOn with
 |ref a=>exact r a ((bC ..).mp h)
 |builtin id=>exact b id
 |«type» id=>exact t id
 |_=>exact xf h
|_=>exact xf h
theorem ahc{fv:PV}{v:Value}(G:Good w tab)(h:callee tab fv=true)(r:VR X v fv):keepIn (Kf w.params) v=true\/(∃id,v=.builtin id)\/∃id,v=.type id:=
 ahb (M:=λfv=>VR X v fv->keepIn (Kf w.params) v=true\/(∃id,v=.builtin id)\/∃id,v=.type id) h (λa h r=>vT r λJ=>.inl (h.elim (λh=>(cz.mp h).elim λJ h=>G.k h) λh=>(cz.mp h).elim λJ h=>G.ki h)) (λid r=>vT r λJ=>.inr (.inl ⟨id,rfl⟩)) (λid r=>vT r λJ=>.inr (.inr ⟨id,rfl⟩)) r
theorem ahd{fv:PV}(h:xK x=some fv):x=.k fv:=by
 induction x using X.casesOn with
|k v=>exact congrArg Internal.X.k (ai h)
|_=>exact xn h
theorem ahe{g:Str}{p:Pos}(G:Good w tab)(H:kK w n f)(h:((zS tab sc m g).bind λx=>(xK x).bind λfv=>cond (callee tab fv) ((oi (f sc m) args).map λas=>.call fv as) none)=some x)(C:At w n X η sc m env sl s A)(hw:W n x sl η P)(k:Kx w n X sc m env sl s A P Q):wpAny (model pw w) A (eval (.Call (.Name g p) args [] pos) env) Q E s:=
 jg h λgx hg h=>jg h λfv hx h=>xc h λhc h=>jq h λas ha e=>wpAny_Call_ofName (JN G (hg.trans (congrArg some (ahd hx))) C (P:=λv iY=>v=fv/\WL n as sl iY λvs η=>jb n fv vs η P) ⟨rfl,(wx e hw :)⟩ λe1 C1 r1 hw=>
  have r1:=hw.1▸r1
  Fb (ahc G hc r1) H ha C1 hw.2 λe2 C2 rs hc=>hc G C2.B (r1.mono e2.le) rs C2.R λe3 B3 r3 q=>k ((e1.trans e2).trans e3) (C2.next e3 B3) r3 q)
theorem ahf{g:Expr}(G:Good w tab)(H:kK w n f)(h:SY tab f sc m g args pos=some x)(C:At w n X η sc m env sl s A)(hw:W n x sl η P)(k:Kx w n X sc m env sl s A P Q):wpAny (model pw w) A (eval (.Call g args [] pos) env) Q E s:=by
 induction g using PySem.Expr.casesOn with
|Attribute o nm apos=>exact xc h λc h=>agJ G H c h C hw k
|Name g p=>exact ahe G H h C hw k
|_=>exact xn h
theorem J5(T:oj w n f){op:BoolOp}:∀{es:List Expr} {x:Internal.X} {X:Em} {η:AH} {s:Shared} {R:Bool->AH->Prop} {Q:Bool->Shared->Prop},cBool (f sc m) op es=some x->At w n X η sc m env sl s A->W n x sl η P->(∀{u η},P u η->∃b,mP u η=some b/\R b η)->Kt w n X sc m env sl s A R Q->wpAny (model pw w) A (allTrue op es env) Q E s
|[],_,_,_,_,_,_,h,_,_,_,_=>xn h
|[e],x,X,η,s,R,Q,h,C,hw,hR,q=>wpAny_bind (T h C hw hR λ{b _ _ _} e1 C1 hr=>by
  have:=q e1 C1 hr
  cases op<;>cases b<;>exact wpAny_pure this)
|e::g::es,x,X,η,s,R,Q,h,C,hw,hR,q=>jg h λa h1 h=>jq h λb h2 e'=>wpAny_bind (T (R:=λt η=>(t=JH op->W n b sl η P)/\(t=!JH op->R t η)) h1 C (wx e' hw :) (λh=>h.elim λt z=>⟨t,z.1,z.2.1,λht=>(hR (z.2.2 ht)).elim λb y=>ai (y.1.symm.trans z.1)▸y.2⟩) λ{b _ _ _} e1 C1 hr=>by
  cases op<;>cases b
  ·exact wpAny_pure (q e1 C1 (hr.2 rfl))
  ·exact J5 T h2 C1 (hr.1 rfl) hR λe2=>q (e1.trans e2)
  ·exact J5 T h2 C1 (hr.1 rfl) hR λe2=>q (e1.trans e2)
  ·exact wpAny_pure (q e1 C1 (hr.2 rfl)))
theorem Uk{op:UnaryOp}(h:SW op=true):op=.Not:=by
 cases op<;>first|rfl|exact xf h
theorem ahg(G:Good w tab)(H:kK w n f)(T:oj w n t)(h:cE tab f t sc m e=some x)(C:At w n X η sc m env sl s A)(hw:W n x sl η P)(k:Kx w n X sc m env sl s A P Q):wpAny (model pw w) A (eval e env) Q E s:=by
 induction e using PySem.Expr.casesOn with
|Constant c a b=>exact afV h C hw k
|Name y p=>exact JN G h C hw k
|BoolOp op vs p=>exact JP H op h C hw k
|BinOp l op r p=>exact afW H h C hw k
|UnaryOp op y p=>exact xc h λc h=>Uk c▸afY H h C hw k
|IfExp c a b p=>exact afZ H T h C hw k
|Dict ks vs p=>exact mE h (λc h=>xc h λc2 h=>dR.mp c▸dR.mp c2▸wpAny_Dict_empty ((QR (t:=s.toks) C.B).casesOn λe1 B1 r1=>k e1 (C.next e1 B1) r1 (wx (ai h) hw :))) λc h=>xc h λc2 h=>agh H c c2 h C hw k
|List es p=>exact af0 H h C hw k
|Tuple es c p=>exact af1 H h C hw k
|ListComp elt gs jo p=>exact J3 H T C hw (Ff C k) h
|DictComp a b gs jo p=>exact arm_eval_DictComp ..▸J4 H T C hw (Ff C k) h
|Compare l ops rs p=>exact jg h λop h1 h=>jg h λr h2 h=>wR h1▸wR h2▸mE h (λJ h=>xn h) λc h=>afX H c h C hw k
|Call g as ks p=>exact xc h λc h=>dR.mp c▸ahf G H h C hw k
|Attribute v a p=>exact xc h λc h=>af2 G H c h C hw k
|Subscript v i p=>exact agd G H h C hw k
|_=>exact xn h
theorem ahh(h:cE tab f t sc m e=some x):isStar e=false:=by
 induction e using PySem.Expr.casesOn with
|Starred _ _=>exact xn h
|_=>rfl
theorem ahi{R:Bool->AH->Prop}{Q:Bool->Shared->Prop}(H:kK w n f)(h:f sc m e=some x)(he:isTrue e env (eval e env)=(do let v <-eval e env;standAt e.pos;holding [v] (truthy v)))(C:At w n X η sc m env sl s A)(hw:W n x sl η P)(hR:∀{u η},P u η->∃b,mP u η=some b/\R b η)(q:Kt w n X sc m env sl s A R Q):wpAny (model pw w) A (isTrue e env (eval e env)) Q E s:=
 wpAny_isTrue_value (H.go h C hw λe1 C1 r1 hp=>(hR hp).elim λb z=>Je z.1 C1.B r1 λt=>q (e1.trans (.tok ..)) C1.tok z.2) he
theorem ahj(G:Good w tab)(H:kK w n f)(HT:oj w n f)(T:oj w n t)(HE:kK w n (cE tab f t)):oj w n (cE tab f t):=by
 intro sc m e x h env sl A X η s P R Q E C hw hR q
 induction e using PySem.Expr.casesOn with
|UnaryOp op y p=>exact xc h λc h=>Uk c▸jq h λa h e=>wpAny_isTrue_Not (HT (R:=λb η=>R (!b) η) h C (wx e hw :) (λz=>z.elim λb z=>⟨b,z.1,(hR z.2).elim λb' y=>ai y.1▸y.2⟩) q)
|BoolOp op vs p=>exact wpAny_isTrue_BoolOp (J5 HT h C hw hR q)
|IfExp c a b p=>exact jg h λc' h1 h=>jg h λa' h2 h=>jq h λb' h3 e=>isTrue_IfExp (T (R:=λc η=>(c=true->W n a' sl η P)/\(c=false->W n b' sl η P)) h1 C (wx e hw :) id λ{b _ _ _} e1 C1 hw=>match b,hw with
 |true,hw=>HT h2 C1 (hw.1 rfl) hR λe2=>q (e1.trans e2)
 |false,hw=>HT h3 C1 (hw.2 rfl) hR λe2=>q (e1.trans e2))
|Compare l ops rs p=>exact jg h λop h1 h=>jg h λr h2 h=>wR h1▸wR h2▸mE h (λJ h=>xn h) λc h=>jg h λa h3 h=>jq h λb h4 e=>wpAny_isTrue_Compare1 (H.go h3 C (wx e hw :) λe1 C1 r1 hw=>H.go h4 C1 hw λe2 C2 r2 hw=>hw.elim λc z=>Rh z.1 (r1.mono e2.le) r2 C2.B C2.R.cm λt=>wpAny_truthy_bool ((hR z.2).elim λb' y=>q ((e1.trans e2).trans (.tok ..)) C2.tok (ai y.1▸y.2))) c
|_=>exact ahi HE h rfl C hw hR q
theorem Ul:kK w n EY/\oj w n EY:=⟨⟨λh=>xn h,λh=>xn h⟩,λh=>xn h⟩
theorem J6(G:Good w tab):∀k,(kK w n (EZ tab k)/\oj w n (EZ tab k))/\kK w n (E9 tab k)/\oj w n (E9 tab k)
|0=>⟨Ul,Ul⟩
|k+1=>
  have ih:=J6 G k
  have HE:kK w n (cE tab (EZ tab k) (E9 tab k)):=⟨λh=>ahg G ih.1.1 ih.2.2 h,ahh⟩
  ⟨⟨HE,ahj G ih.1.1 ih.1.2 ih.2.2 HE⟩,ih.1⟩
end
end
section
open PySem.SeqAt
abbrev Um(w:World)(n:Nat)(X:Em)(sc:Scope)(m:Sm)(env:Env)(s:Shared)(A:Around)(P:Sl->AH->Prop)(Q:Unit->Shared->Prop):Prop:=∀{s' Y kT iY},Ext X s (own sc env) Y s'->At w n Y iY sc m env kT s' A->P kT iY->Q () s'
noncomputable abbrev yH(q:Str×Pos):Expr:=.Name q.1 q.2
section
variable{w:World}{f t:Cf}{sc:Scope}{m:Sm}{env:Env}{sl kT:Sl}{X Y:Em}{iY:AH}{s s':Shared}{P:Sl->AH->Prop}{Q:Unit->Shared->Prop}{E:Value->Shared->Prop}{x:Internal.X}{e:Expr}{es args:List Expr}{pos:Pos}{v:Value}{p:PV}{vs:List Value}{l:List PV}{a:Addr}
theorem z4{M:Expr->Tt->Prop}{t:Tt}(h:yD f sc m e=some t)(nm:∀{y q i},tH sc y=true->ja m y=some i->M (.Name y q) (.loc i))(at_:∀{o a q y},f sc m o=some y->M (.Attribute o a q) (.mS y a))(it:∀{o i q y z},isSlice i=false->f sc m o=some y->f sc m i=some z->M (.Subscript o i q) (.nG y z)):M e t:=by
 induction e using PySem.Expr.casesOn with
|Name y q=>exact xc h λc h=>jq h λi hi e=>e▸nm c hi
|Attribute o a q=>exact jq h λy hy e=>e▸at_ hy
|Subscript o i q=>exact mE h (λJ h=>xn h) λc h=>jg h λy h1 h=>jq h λz h2 e=>e▸it c h1 h2
|_=>exact xn h
theorem J7{t:Tt}(h:yD f sc m e=some t):assignEach (e::es) env=(false,assign e env)::assignEach es env:=
 z4 (M:=λe J=>assignEach (e::es) env=(false,assign e env)::assignEach es env) h (λJ J=>rfl) (λJ=>rfl) λJ J J=>rfl
theorem Un{t:Tt}(G:Good w tab)(H:kK w n f)(h:yD f sc m e=some t)(C:At w n X η sc m env sl s A)(rv:VR X v p)(hw:Wt n t p sl η P)(q:Um w n X sc m env s A P Q):wpAny (model pw w) A (assign e env v) Q E s:=by
 refine z4 (M:=λe t=>Wt n t p sl η P->wpAny (model pw w) A (assign e env v) Q E s) h ?_ ?_ ?_ hw
 ·exact λc hi hw=>wpAny_assign_Name (C.bind c hi rv λe1 C1=>q e1 C1 hw)
 ·exact λhy hw=>arm_assign_Attribute ..▸wpAny_bind (wpAny_holding (H.go hy C hw λ{u s1 _ _ _} e1 C1 r1 hw=>wpAny_bind (wpAny_standAt (wpAny_bind (wpAny_holding (hw.elim λjl z=>Rn G.f z.1 r1 (rv.mono e1.le) C1.B λE2 B2=>wpAny_release (have e2:=e1.trans E2;q e2.up (C.next e2 B2) z.2)))))))
 ·exact λhs h1 h2 hw=>arm_assign_Subscript ..▸wpAny_bind (wpAny_holding (H.go h1 C hw λe1 C1 r1 hw=>wpAny_bind (wpAny_holding (H.go h2 C1 hw λe2 C2 r2 hw=>wpAny_bind (wpAny_standAt (wpAny_bind (wpAny_holding (hw.elim λjl z=>have z5:=e1.trans e2;afK z.1 (r1.mono e2.le) r2 (rv.mono z5.le) C2.B λE3 B3=>wpAny_release (have e3:=z5.trans E3;q e3.up (C.next e3 B3) z.2)))))))))
theorem stN(G:Good w tab)(H:kK w n f):∀{pL:List Tt} {vs:List Value} {l:List PV} {sl:Sl} {η:AH} {X:Em} {s:Shared} {Q:Unit->Shared->Prop},zU f sc m ts=some pL->t6 n pL l sl η P->At w n X η sc m env sl s A->jr X vs l->Um w n X sc m env s A P Q->wpAny (model pw w) A (assignInOrder ((assignEach ts env).map (·.2)) vs) Q E s:=by
 induction ts with
|nil=>
  intro pL vs l sl η X s Q h hw C rs q
  obtain rfl:=ai h
  cases l with
 |nil=>exact oM (R:=λvs=>wpAny (model pw w) A (assignInOrder ((assignEach [] env).map (·.2)) vs) Q E s) rs (wpAny_pure (q (.refl ..) C hw))
 |cons _ _=>exact hw.elim
|cons e ts ih=>
  refine λ{pL vs l sl η X s Q} h hw C rs q=>jg h λt h1 h=>jq h λUo h2 h3=>?_
  have hw:=(show t6 n (t::Uo) l sl η P from h3▸hw)
  cases l with
 |nil=>exact hw.elim
 |cons p l=>exact J7 h1▸mK (R:=λvs=>wpAny (model pw w) A (assignInOrder (((false,assign e env)::assignEach ts env).map (·.2)) vs) Q E s) rs λv us r rs=>wpAny_bind (wpAny_holding (Un G H h1 C r hw λe1 C1 hw=>ih h2 hw C1 (rs.mono e1.le) λe2=>q (e1.trans e2)))
theorem ahk:∀{pL:List Tt},zU f sc m ts=some pL->(assignEach ts env).length=pL.length/\(assignEach ts env).findIdx? (·.1)=none:=by
 induction ts with
|nil=>exact λh=>ai h▸⟨rfl,rfl⟩
|cons e ts ih=>exact λh=>jg h λt h1 h=>jq h λUo h2 h3=>h3▸J7 h1▸⟨congrArg (·+1) (ih h2).1,iD.trans ((congrArg (Option.map (·+1)) (ih h2).2).trans rfl)⟩
theorem ahl{i:Nat}{u v:Option PV}(h:i≠j):∀{sl:Sl},put (put sl i u) j v=put (put sl j v) i u:=by
 induction i generalizing j with
|zero=>exact λ{sl}=>match sl,j,h with
 |[],_,_=>rfl
 |_::_,0,h=>absurd rfl h
 |_::_,j+1,_=>rfl
|succ i ih=>exact λ{sl}=>match sl,j,h with
 |[],_,_=>rfl
 |_::_,0,_=>rfl
 |a::r,j+1,h=>congrArg (a::·) (ih (λe=>h (congrArg (·+1) e)))
theorem ahm{i:Nat}{u:Option PV}{is:List Nat}(h:i∉is):∀{l:List PV} {sl:Sl},sG is l (put sl i u)=(sG is l sl).map (put · i u):=by
 induction is with
|nil=>exact λ{l}=>match l with
 |[]=>rfl
 |_::_=>rfl
|cons j is ih=>exact λ{l sl}=>match l with
 |[]=>rfl
 |v::l=>(congrArg (sG is l) (ahl λe:i=j=>h (e▸bL ..))).trans (ih λe=>h (bu _ e))
theorem ahn{qs:List (Str×Pos)}:∀{is:List Nat},wX sc m (qs.map yH)=some is->∀{i},i∈is->∃y,y∈qs.map (·.1)/\ja m y=some i:=by
 induction qs with
|nil=>exact λh J hi=>absurd (ai h▸hi) aU
|cons q qs ih=>exact λ{_} h {k} hi=>jg h λy h1 h=>xc h λc h=>jg h λi h2 h=>jq h λCd h3 h4=>(aB.mp (show k∈i::Cd from h4▸hi)).elim (λe=>⟨y,(ai h1:q.1=y)▸bL ..,e▸h2⟩) λe=>(ih h3 e).elim λy z=>⟨y,bu _ z.1,z.2⟩
theorem aho{qs:List (Str×Pos)}:∀{is:List Nat} {vs us:List Value} {l:List PV} {sl kT:Sl} {s:Shared} {fs:List (Value->Sem Unit)} {Q:Unit->Shared->Prop},wX sc m (qs.map yH)=some is->(qs.map (·.1)).Nodup->sG is l sl=some kT->At w n X η sc m env sl s A->jr X vs l->
  (∀{s'},Ext X s (own sc env) X s'->At w n X η sc m env kT s' A->wpAny (model pw w) A (assignInOrder fs us) Q E s')->wpAny (model pw w) A (assignInOrder ((qs.map (·.1)).reverse.map (λy=>bindName env y)++fs) (vs.reverse++us)) Q E s:=by
 induction qs with
|nil=>
  intro is vs us l sl kT s fs Q h nd hp C rs q
  obtain rfl:=ai h
  cases l with
 |nil=>exact oM (R:=λvs=>wpAny (model pw w) A (assignInOrder fs (vs.reverse++us)) Q E s) rs (q (.refl ..) (ai hp▸C))
 |cons _ _=>exact xn hp
|cons a qs ih=>
  refine λ{is vs us l sl kT s fs Q} h nd hp C rs q=>jg h λy h1 h=>xc h λc h=>jg h λi h2 h=>jq h λCd h3 h4=>?_
  have nd:=bw.mp nd
  obtain rfl:=ai h1
  cases l with
 |nil=>exact xn (h4▸hp)
 |cons p l=>
   have hp:=(ahm λe=>(ahn h3 e).elim λy z=>nd.1 (show a.1∈_ from T3 C.o h2 z.2▸z.1)).symm.trans (show sG Cd l (put sl i (some p))=some kT from (h4▸hp :))
   refine jq hp λapk hp e=>mK (R:=λvs=>wpAny (model pw w) A (assignInOrder (((a::qs).map (·.1)).reverse.map (λy=>bindName env y)++fs) (vs.reverse++us)) Q E s) rs λv vs r rs=>?_
   rw [bT,d9,aV,bQ,d9,bQ]
   exact ih h3 nd.2 hp C rs λe1 C1=>wpAny_bind (wpAny_holding (wpAny_bindName (C1.bind c h2 r λe2 C2=>q (e1.trans e2) (e▸C2))))
theorem Up:∀(k:Nat) (l:List Str),l.length<=k->l.eraseDups.length<=l.length/\(l.eraseDups.length=l.length->l.Nodup)
|_,[],_=>⟨ak _,λJ=>.nil⟩
|0,_::_,h=>absurd h (gj _)
|k+1,a::l,h=>by
  have f:=bV (λb=>!b == a) l
  have ih:=Up k (l.filter λb=>!b == a) (ah f (eE h))
  rw [List.eraseDups_cons,aZ,aZ]
  refine ⟨aL (ah ih.1 f),λe=>?_⟩
  have e:=dK e
  have e2:l.filter (λb=>!b == a)=l:=gm.mpr (List.length_filter_eq_length_iff.mp (eP f (e▸ih.1)))
  rw [e2] at ih e
  exact bw.mpr ⟨λhm=>xf (beq_self_eq_true a▸gm.mp e2 a hm:(!(true:Bool))=true),ih.2 e⟩
theorem Uq{F:Expr->Option Str}(hF:∀{t y},F t=some y->∃q,t=.Name y q):∀{ts:List Expr},(ts.filterMap F).length=ts.length->∃qs:List (Str×Pos),ts=qs.map yH/\ts.filterMap F=qs.map (·.1)
|[],_=>⟨[],rfl,rfl⟩
|e::ts,h=>xo (F e) (λc=>by
   rw [List.filterMap_cons_none c] at h
   exact absurd (h▸iE F ts) (iF _)) λy c=>by
   rw [List.filterMap_cons_some c] at h ⊢
   exact (hF c).elim λq e1=>(Uq hF (dK h)).elim λqs z=>⟨(y,q)::qs,by rw [e1,z.1];rfl,congrArg (y::·) z.2⟩
theorem z6{α:Type _}{M:α->Prop}{c:Prop}[Decidable c]{a b:α}(t:c->M a)(f:¬ c->M b):M (if c then a else b):=by
 by_cases h:c
 ·rw [if_pos h];exact t h
 ·rw [if_neg h];exact f h
def z7(ts:List Expr)(m:Sem (Option (List Str))):Prop:=m=pure none\/∃qs:List (Str×Pos),m=pure (some (qs.map (·.1)))/\ts=qs.map yH/\(qs.map (·.1)).Nodup
theorem swapped{c:Nat}(h:IW e=true):z7 ts (swappedStores [.Tuple ts c pos] e env):=by
 induction e using PySem.Expr.casesOn with
|Tuple vs k q=>
  have h:(!(vs.all (constantsAlone 8)) || vs.all (foldedForSure 8))=true:=h
  unfold swappedStores
  dsimp only
  refine z6 (M:=z7 ts) (λJ=>.inl rfl) λc1=>?_
  refine z6 (M:=z7 ts) (λJ=>.inl rfl) λJ=>?_
  refine z6 (M:=z7 ts) (λJ=>.inl rfl) λc2=>?_
  refine z6 (M:=z7 ts) (λJ=>.inl rfl) λc3=>?_
  refine z6 (M:=z7 ts) (λc4=>?_) λJ=>.inr ?_
  ·rw [c4,fh.mpr c3] at h
   exact nomatch h
  ·rw [bC,not_or,bne_iff_ne,bne_iff_ne,iG,iG] at c2
   refine (Uq (λ{t y} hy=>?_) c2.1).elim λqs z=>⟨qs,congrArg (λl=>pure (some l)) z.2,z.1,z.2▸(Up _ _ (ak _)).2 c2.2⟩
   induction t using PySem.Expr.casesOn with
  |Name y' q=>exact z6 (M:=λm=>m=some y->∃q,Expr.Name y' _=.Name y q) (λJ h=>ai h▸⟨_,rfl⟩) (λJ h=>xn h) hy
  |_=>exact xn hy
|_=>exact .inl rfl
end
end
set_option backward.match.sparseCases false
section
open PySem.SeqAt
abbrev Ur(Y:Em)(v:Flow)(fl:Fl):Prop:=match fl with
|.next=>v=.next
|.cont=>v=.cont
|.ret p=>∃u,v=.ret u/\VR Y u p
abbrev sJ(w:World)(n:Nat)(X:Em)(sc:Scope)(m:Sm)(env:Env)(s:Shared)(A:Around)(P:Fl->Sl->AH->Prop)(Q:Flow->Shared->Prop):Prop:=∀{fl v s' Y kT iY},Ext X s (own sc env) Y s'->At w n Y iY sc m env kT s' A->Ur Y v fl->P fl kT iY->Q v s'
abbrev Cb:=Scope->Sm->List Stmt->Option jn
def yI(w:World)(n:Nat)(c:Cb):Prop:=∀{sc m b x},c sc m b=some x->∀{wf env sl A X η s P Q E},At w n X η sc m env sl s A->WS n x wf sl η P->sJ w n X sc m env s A P Q->wpAny (model pw w) A (execs b env) Q E s
section
variable{w:World}{wf:Nat}{f t:Cf}{c:Cb}{sc:Scope}{m:Sm}{env:Env}{sl:Sl}{X Y:Em}{iY:AH}{s s':Shared}{PX:PV->AH->Prop}{P:Fl->Sl->AH->Prop}{QV:Value->Shared->Prop}{Q:Flow->Shared->Prop}{E:Value->Shared->Prop}{x:St}{y:Internal.X}{e:Expr}{es:List Expr}{pos:Pos}{v:Value}{p:PV}
@[elab_as_elim] theorem Us{M:Flow->Prop}{v:Flow}{fl:Fl}{Pn:Prop}{Pr:PV->Prop}(r:Ur Y v fl)(hp:match (motive:=Fl->Prop) fl with|.ret v=>Pr v|_=>Pn)(kc:M .next=M .cont)(k:Pn->M .next)(rt:∀{u p},VR Y u p->Pr p->M (.ret u)):M v:=by
 cases fl with
|next=>exact r▸k hp
|cont=>exact r▸kc▸k hp
|ret p=>exact ay r λu z=>z.1▸rt z.2 hp
theorem Fg{M:Expr->Prop}(hc:yk e=true)(l:∀elt gs jo q,M (.ListComp elt gs jo q))(d:∀a b gs jo q,M (.DictComp a b gs jo q))(ss:∀a gs jo q,M (.SetComp a gs jo q)):M e:=by
 induction e using PySem.Expr.casesOn with
|ListComp elt gs jo q=>exact l elt gs jo q
|DictComp a b gs jo q=>exact d a b gs jo q
|SetComp a gs jo q=>exact ss a gs jo q
|_=>exact xf hc
theorem J8(h:yk e=false):wZ f t sc m e=f sc m e/\∀{tg line},swapsWith e (some tg) line env=pure false:=by
 induction e using PySem.Expr.casesOn<;>first|exact ⟨rfl,rfl⟩|exact nomatch h
theorem J9(H:kK w n f)(T:oj w n t)(h:wZ f t sc m e=some y)(C:At w n X η sc m env sl s A)(hw:W n y sl η PX)(k:Kx w n X sc m env sl s A PX QV):wpAny (model pw w) A (eval e env) QV E s:=
 xd (yk e) (λc=>Fg (M:=λe=>wZ f t sc m e=some y->wpAny (model pw w) A (eval e env) QV E s) c (λJ J J J h=>J3 H T C hw (Ff C k) h) (λJ J J J J h=>arm_eval_DictComp ..▸J4 H T C hw (Ff C k) h) (λJ J J J h=>xn h) h) λc=>H.go ((J8 (env:=env) c).1.symm.trans h) C hw k
def SwOk(f:Cf)(sc:Scope)(m:Sm)(env:Env)(e tg:Expr)(tt:Tt)(line:Nat):Prop:=swapsWith e (some tg) line env=pure false\/∃y p i,tg=.Name y p/\tt=.loc i/\tH sc y=true/\ja m y=some i/\swapsWith e (some (.Name y p)) line env=pure true/\yk e=true
theorem ahp{tt:Tt}{line:Nat}(ht:yD f sc m tg=some tt):SwOk f sc m env e tg tt line:=
 have key:∀(b:Bool),(pure b:Sem Bool)=pure false\/(pure b:Sem Bool)=pure true:=λb=>b.casesOn (.inl rfl) (.inr rfl)
 xd (yk e) (λc=>Fg (M:=λe=>SwOk f sc m env e tg tt line) c
  (λJ J jo q=>z4 (M:=λtg tt=>SwOk f sc m env _ tg tt line) ht (λ{y p i} hy hi=>(key _).imp id λe=>⟨y,p,i,rfl,rfl,hy,hi,e,rfl⟩) (λJ=>.inl rfl) λJ J J=>.inl rfl)
  (λJ J J jo q=>z4 (M:=λtg tt=>SwOk f sc m env _ tg tt line) ht (λ{y p i} hy hi=>(key _).imp id λe=>⟨y,p,i,rfl,rfl,hy,hi,e,rfl⟩) (λJ=>.inl rfl) λJ J J=>.inl rfl)
  (λJ J jo q=>z4 (M:=λtg tt=>SwOk f sc m env _ tg tt line) ht (λ{y p i} hy hi=>(key _).imp id λe=>⟨y,p,i,rfl,rfl,hy,hi,e,rfl⟩) (λJ=>.inl rfl) λJ J J=>.inl rfl)) λc=>.inl (J8 (f:=f) (t:=f) (sc:=sc) (m:=m) c).2
theorem Ut{y:Str}{i:Nat}{PP:Sl->AH->Prop}(C:At w n X η sc m env sl s A)(hy:tH sc y=true)(hi:ja m y=some i)(q:∀{s' Y kT iY},Ext X s (own sc env) Y s'->At w n Y iY sc m env kT s' A->PP kT iY->QV .none s'):Kc w n X sc m env sl s A (λv η=>PP (put sl i (some v)) η) E (some λv=>assign (.Name y pos) env v) QV:=
 λ{D K s' Z p iY} hK e C' r t hm hp=>wpAny_assign_Name (C'.bind hy hi r λ{s2} e2 C2=>hm.elim λms hm=>
  have nC:¬ yt env K:=λq=>(C.F.alive q).1.elim λo ho=>xm (ho.symm.trans hK)
  ⟨ms,Jo hm λo ho=>e2.keep K o ho t λq=>nC (EA q),λh' hs=>q ((e.up.trans e2).but (t:=s2.toks) hK hs.extBut) (C2.nx t nC hs.extBut) hp⟩)
theorem ahq{y:Str}{i:Nat}{z:Internal.X}{q:Pos}{PP:Sl->AH->Prop}(H:kK w n f)(T:oj w n t)(hs:swapsWith e (some (.Name y q)) pos.line env=pure true)(hc:yk e=true)(hv:wZ f t sc m e=some z)(hy:tH sc y=true)(hi:ja m y=some i)(C:At w n X η sc m env sl s A)(hw:W n z sl η λv η=>PP (put sl i (some v)) η)(k:∀{s' Y kT iY},Ext X s (own sc env) Y s'->At w n Y iY sc m env kT s' A->PP kT iY->Q .next s'):
  wpAny (model pw w) A (exec (.Assign [.Name y q] e pos) env) Q E s:=by
 rw [exec_Assign_Name_used _ _ _ _ hs]
 refine wpAny_bind (wpAny_standAt (wpAny_bind ?_))
 refine Fg (M:=λe=>wZ f t sc m e=some z->wpAny (model pw w) A (evalThenUse e env (assign (.Name y q) env)) (λJ s₁=>wpAny (model pw w) A (pure Flow.next) Q E s₁) E s) hc ?_ ?_ (λJ J J J h=>xn h) hv
 ·exact λJ J J J hv=>wpAny_bind (wpAny_mono (J3 H T C hw (Ut (QV:=λJ s'=>Q .next s') C hy hi k) hv) (λJ J h=>wpAny_pure (wpAny_pure h)) λJ J x=>x)
 ·exact λJ J J J J hv=>wpAny_bind (wpAny_mono (J4 H T C hw (Ut (QV:=λJ s'=>Q .next s') C hy hi k) hv) (λJ J h=>wpAny_pure (wpAny_pure h)) λJ J x=>x)
theorem ahr{tt:Tt}(G:Good w tab)(H:kK w n f)(T:oj w n t)(hv:wZ f t sc m e=some y)(ht:yD f sc m tg=some tt)(C:At w n X η sc m env sl s A)(hw:W n y sl η λv η=>Wt n tt v sl η (P .next))(k:sJ w n X sc m env s A P Q):wpAny (model pw w) A (exec (.Assign [tg] e pos) env) Q E s:=by
 refine (ahp ht).elim (λhs=>wpAny_Assign_stores (J9 H T hv C hw λe1 C1 r1 hw=>?_) hs (z4 (M:=λtg J=>swappedStores [tg] e env=pure none) ht (λJ J=>rfl) (λJ=>rfl) λJ J J=>rfl)) λz=>z.elim λy z=>z.elim λp z=>z.elim λi z=>?_
 ·rw [J7 (es:=[]) (env:=env) ht]
  exact Un G H ht C1 r1 hw λe2 C2 hp=>k (e1.up.trans e2) C2 rfl hp
 ·exact z.1▸ahq (PP:=P .next) H T z.2.2.2.2.1 z.2.2.2.2.2 hv z.2.2.1 z.2.2.2.1 C (show W n _ sl η λv η=>Wt n (.loc i) v sl η (P .next) from z.2.1▸hw) λe C hp=>k e C rfl hp
theorem ahs{qs:List (Str×Pos)}:∀{pL:List Tt},zU f sc m (qs.map yH)=some pL->∃is,wX sc m (qs.map yH)=some is/\qs.length=is.length/\∀{l sl η} {P:Sl->AH->Prop},t6 n pL l sl η P->∃kT,sG is l sl=some kT/\P kT η:=by
 induction qs with
|nil=>exact λh=>⟨[],rfl,rfl,λ{l _ _ _} hw=>by
   obtain rfl:=ai h
   cases l with
  |nil=>exact ⟨_,rfl,hw⟩
  |cons _ _=>exact hw.elim⟩
|cons q qs ih=>
  refine λh=>jg h λt h1 h=>xc h1 λc h1=>jq h1 λi h1 e1=>jq h λpL h2 e2=>(ih h2).elim λis z=>⟨i::is,?_,congrArg (·+1) z.2.1,λ{l _ _ _} hw=>?_⟩
  ·show (some q.1).bind _=_
   show cond (tH sc q.1) ((ja m q.1).bind λi=>(wX sc m (qs.map yH)).map (i::·)) none=_
   rw [c,h1,z.1]
   rfl
  ·subst e2 e1
   cases l with
  |nil=>exact hw.elim
  |cons v l=>exact z.2.2 hw
theorem exec_Assign(targets value pos):exec (.Assign targets value pos) env=(do
  standAt pos
  if <-swapsWithSole targets value pos.line env then do
   evalThenUse value env λv=>assignAll v ((assignEach targets env).map (·.2))
   pure .next
  else do
   let v <-eval value env
   assignStores env v (<-swappedStores targets value env) ((assignEach targets env).map (·.2))):=rfl
theorem aht{cx:Nat}{tp:Pos}{pL:List Tt}(G:Good w tab)(H:kK w n f)(T:oj w n t)(hs:IW e=true)(hv:wZ f t sc m e=some y)(ht:zU f sc m ts=some pL)(C:At w n X η sc m env sl s A)(hw:W n y sl η λv η=>∃l,v=.tup l/\l.length=pL.length/\t6 n pL l sl η (P .next))(k:sJ w n X sc m env s A P Q):wpAny (model pw w) A (exec (.Assign [.Tuple ts cx tp] e pos) env) Q E s:=by
 have hn:swapsWithSole [.Tuple ts cx tp] e pos.line env=pure false:=xd (yk e) (λc=>Fg (M:=λe=>swapsWithSole [.Tuple ts cx tp] e pos.line env=pure false) c (λJ J J J=>rfl) (λJ J J J J=>rfl) λJ J J J=>rfl) λc=>(J8 (env:=env) (f:=f) (t:=f) (sc:=sc) (m:=m) c).2 (tg:=.Tuple ts cx tp) (line:=pos.line)
 refine (swapped (pos:=tp) (c:=cx) (ts:=ts) (env:=env) hs).elim (λhq=>wpAny_Assign_stores (J9 H T hv C hw λ{v s1 Y p Fe} e1 C1 r1 hw=>?_) hn hq) λz=>z.elim λqs z=>?_
 ·refine hw.elim λl z=>vU (v:=v) (z.1▸r1) λa vs m' e rs=>?_
  have N:=ahk (env:=env) ht
  refine wpAny_assign_Tuple (x1:=cx) C1.R.h (vE (C1.B.fz e)) (N.1.trans (z.2.1.symm.trans rs.length.symm)) N.2 λh' eb=>?_
  have E1:Ext Y s1 (own sc env) Y { s1 with heap:=h' }:=(Ext.refl Y s1 _).but (t:=s1.toks) (bJ (ak _)) eb
  exact stN (s:={ s1 with heap:=h' }) G H ht z.2.2 ⟨C1.B.extBut (C1.B.off (ak _)) eb,C1.F.at (.refl Y) (λ{a o} _ ho nt=>⟨eb a o (bI (cH ho)) ho,nt⟩) id,C1.R,C1.o⟩ rs λe2 C2 hp=>k ((e1.up.trans E1).trans e2) C2 rfl hp
 ·have e1:=z.2.1
  subst e1
  rw [exec_Assign]
  refine wpAny_bind (wpAny_standAt ?_)
  rw [hn]
  refine wpAny_bind (wpAny_pure ?_)
  rw [if_neg (dc rfl),z.1]
  refine wpAny_bind (J9 H T hv C hw λ{v s1 Y p Fe} e1 C1 r1 hw=>wpAny_bind (wpAny_pure ?_))
  refine hw.elim λl y=>vU (v:=v) (y.1▸r1) λa vs m' e rs=>(ahs (n:=n) ht).elim λis z2=>(z2.2.2 y.2.2).elim λkT z3=>?_
  have hl:(qs.map (·.1)).length=vs.toArray.size:=by
   rw [bM,rs.length,aC,<-JT z3.1,z2.2.1]
  refine wpAny_bind (wpAny_rule ?_)
  rw [hl]
  refine wpAny_bind (wpAny_unpackItems_tuple C1.R.h (vE (C1.B.fz e)) λh' eb=>?_)
  have E1:Ext Y s1 (own sc env) Y { s1 with heap:=h' }:=(Ext.refl Y s1 _).but (t:=s1.toks) (bJ (ak _)) eb
  have:=aho (s:={ s1 with heap:=h' }) (A:=A) (E:=E) (fs:=[]) (us:=[]) (Q:=λJ s=>wpAny (model pw w) A (pure .next) Q E s) z2.1 z.2.2 z3.1 ⟨C1.B.extBut (C1.B.off (ak _)) eb,C1.F.at (.refl Y) (λ{a o} _ ho nt=>⟨eb a o (bI (cH ho)) ho,nt⟩) id,C1.R,C1.o⟩ rs λe2 C2=>wpAny_pure (wpAny_pure (k ((e1.up.trans E1).trans e2) C2 rfl z3.2))
  rw [bU,bU] at this
  exact wpAny_bind this
end
end
section
open PySem.SeqAt
section
variable{w:World}{wf:Nat}{f t:Cf}{c:Cb}{sc:Scope}{m:Sm}{env:Env}{sl:Sl}{X Y:Em}{iY:AH}{s s':Shared}{PX:PV->AH->Prop}{P:Fl->Sl->AH->Prop}{QV:Value->Shared->Prop}{Q:Flow->Shared->Prop}{E:Value->Shared->Prop}{x:St}{y:Internal.X}{e:Expr}{es:List Expr}{pos:Pos}{v:Value}{p:PV}{body:List Stmt}
theorem ahu(G:Good w tab)(H:kK w n f)(T:oj w n t)(h:Td f t sc m tg e=some x)(C:At w n X η sc m env sl s A)(hw:W1 n x wf sl η P)(k:sJ w n X sc m env s A P Q):wpAny (model pw w) A (exec (.Assign [tg] e pos) env) Q E s:=
 jg h λy hv h=>xo (BF tg) (λc=>by
  rw [c] at h
  exact jq h λtt ht e=>ahr G H T hv ht C (show W1 n (.asg tt y) wf sl η P from e▸hw) k) λts c=>by
  rw [c] at h
  exact xc h λc2 h=>jq h λpL ht e=>(TY c).elim λcx z=>z.elim λtp z=>z▸aht G H T c2 hv ht C (show W1 n (.uO pL y) wf sl η P from e▸hw) k
theorem ahv(G:Good w tab)(H:kK w n f)(h:Ti f sc m tg e=some x)(C:At w n X η sc m env sl s A)(hw:W1 n x wf sl η P)(k:sJ w n X sc m env s A P Q):wpAny (model pw w) A (exec (.AugAssign tg .Add e pos) env) Q E s:=by
 induction tg using PySem.Expr.casesOn with
|Attribute o a q=>
  refine jg h λox h1 h=>jq h λy h2 e=>wpAny_AugAssign_AttributeAny (H.go h1 C (show W1 n (.aug ox a y) wf sl η P from e▸hw) λe1 C1 r1 hw=>hw.elim λi z=>Rm G.f z.1 r1 C1.B λ{u} t r2=>H.go h2 C1.tok z.2 λ{u2 s3 V p2 t9} e3 C3 r3 hw=>hw.elim λj z=>?_)
  refine vI r2 λt1=>vI (v:=u2) (z.1▸r3) λt2=>PySem.P.iadd_int (z.2.elim λUu z=>Rn (s:={ s3 with toks:=s3.toks+1 }) G.f z.1 (r1.mono e3.le) (.int _ _) C3.B λ{h' t} E4 B4=>?_)
  have e4:=((e1.trans (.tok ..)).trans e3).trans ((Ext.tok V s3 no _).trans E4)
  exact k e4.up (C.next e4 B4) rfl z.2
|_=>exact xn h
theorem ahw{S:Src}{bd:jn}{R:Result->Shared->Prop}{rE:Em}{qb:Shared}{I:Addr}{k:Nat}(HB:yI w n c)(ht:vY sc m tg=some nD)(hb:c sc m body=some bd)(hI:qb.heap.get? I=none)(hn:¬ yt env I)(E0:Ext rE qb (own sc env) X s)(C:At w n X η sc m env sl s A)(x:oP X s.heap I k S)(hT:¬ X.kH I)
  (hw:oO (λe η Q=>WS n bd wf e η Q) nD S fuel k sl η P) (q:sJ w n rE sc m env qb A P λf s'=>R (.ok f) s'):codeAny (model pw w) A (.forLoop tg (.ref I) body [] env) R s:=by
 refine codeAny_forLoop_any (λnR s'=>∀G:Prop,(∀Y sl η k,oO (λe η Q=>WS n bd wf e η Q) nD S nR k sl η P->Ext rE qb (own sc env) Y s'->At w n Y η sc m env sl s' A->oP Y s'.heap I k S->¬ Y.kH I->G)->G) ?_ fuel λJ q=>q X sl η k hw E0 C x hT
 clear hw E0 C x hT
 intro nR s₁ g
 refine g _ λY sl η k hw E C x hT=>?_
 clear g
 cases nR with
|zero=>exact hw.elim
|succ nR=>
  refine ay hw λo z=>T5 hI (λJ J J J q=>q) hn ht E C x hT z.1 (λe {s'} E1 C1=>?_) λ{p} e {v s'} hs=>?_
  ·subst e
   exact wpAny_execs_nil (q E1 C1 rfl z.2)
  ·subst e
   exact ay z.2 λkT z=>hs z.1 λE3 C3 x3=>HB hb C3 z.2 λ{_ _ _ _ Ci zZ} e4 C4 r4 hp=>Us (Pn:=oO (λe η Q=>WS n bd wf e η Q) nD S nR (k+1) Ci zZ P) (Pr:=λv=>P (.ret v) Ci zZ) r4 hp rfl (λhp=>⟨nR,bG nR,λJ q=>x3.elim λo y=>q _ _ _ _ hp (E3.trans e4) C4 (x3.mono e4.le λo ho=>e4.keep I o ho hT λq=>hn (EA q)) (e4.off y.1 hT)⟩) λr hp=>q (fl:=.ret _) (E3.trans e4) C4 ⟨_,rfl,r⟩ hp
theorem Uv{S:Src}{bd:jn}{ob:Obj}{R:Result->Shared->Prop}{s₁:Shared}(HB:yI w n c)(ht:vY sc m tg=some nD)(hb:c sc m body=some bd)(C:At w n X η sc m env sl s A)(e1:Ext X s no Y s₁)(B1:Base w Y iY s₁.heap)(x:oP Y (s₁.heap.push ob) s₁.heap.objs.size 0 S)
  (hw:oO (λe η Q=>WS n bd wf e η Q) nD S (S.len iY+1) 0 sl iY P) (k:sJ w n X sc m env s A P λf s'=>R (.ok f) s'):codeAny (model pw w) A (.forLoop tg (.ref s₁.heap.objs.size) body [] env) R { s₁ with heap:=s₁.heap.push ob }:=
 have nI:=bJ (h:=s₁.heap) (ak _)
 have yG:=e1.none B1 nI
 have e2:=e1.trans (.push (t:=s₁.toks) ..)
 ahw (s:={ s₁ with heap:=s₁.heap.push ob }) HB ht hb yG (λq=>(C.F.alive q).1.elim λo ho=>xm (ho.symm.trans yG)) e2.up (C.next e2 (B1.push ob)) x (B1.Ef nI) hw k
theorem ahx{q:Str×Expr}(h:IX e=some q):∃p p',e=.Call (.Name q.1 p) [q.2] [] p':=by
 induction e using PySem.Expr.casesOn with
|Call g as ks p'=>exact jg h λf h1 h=>jg h λa h2 h=>xc h λc h=>xb c λc J=>(Fd h1).elim λp e=>ai h▸e▸wR h2▸dR.mp c▸⟨p,p',rfl⟩
|_=>exact xn h
theorem Cj{u:Value}{k:String}(h:zJ u k=true):u=.type k:=by
 cases u<;>first|exact xf h|exact congrArg Value.type (beq_iff_eq.mp h)
theorem J'{u:Value}(h:gV p=some u):p=.st u:=by
 cases p<;>first|exact xn h|exact congrArg PV.st (ai h)
theorem ahy{g:Str}(h:Te tab sc g=true):zS tab sc m g=some (.k (.st (.type "reversed"))):=xb h λa b=>xo ((ja tab.glob g).bind gV) (λe=>by
 rw [e] at b
 exact xf b) λu e=>by
 rw [e] at b
 unfold zS
 rw [of_decide_eq_true a]
 exact jg e λv hv hg=>(congrArg (Option.map Internal.X.k) hv).trans (congrArg (λv=>some (Internal.X.k v)) ((J' hg).trans (congrArg PV.st (Cj b))))
theorem ahz{it:Expr}(G:Good w tab)(H:kK w n f)(HB:yI w n c)(h:Tf tab f c sc m tg it body=some x)(C:At w n X η sc m env sl s A)(hw:W1 n x wf sl η P)(k:sJ w n X sc m env s A P Q):wpAny (model pw w) A (exec (.For tg it body [] pos) env) Q E s:=
 jg h λnD ht h=>jg h λbd hb h=>xo (IX it) (λr=>by
  rw [r] at h
  refine xc h λc h=>jq h λy h1 e=>?_
  subst e
  exact wpAny_For (H.go h1 C hw λe1 C1 r1 hw=>hw.elim λS z=>TV C1.B r1 z.1 λx=>Uv HB ht hb C e1 C1.B x z.2 k) (Uc c)) λq r=>by
  rw [r] at h
  refine xc h λc h=>jq h λy h1 e=>(ahx r).elim λp z=>z.elim λp' z=>?_
  subst z e
  refine wpAny_For (wpAny_Call_ofName (JN G (ahy (m:=m) c) C (P:=λv iY=>v=.st (.type "reversed")/\W1 n (.for true nD y bd) wf sl iY P) ⟨rfl,hw⟩ λ{v s1 Y p Fe} e1 C1 r1 hw=>vT (v:=v) (hw.1▸r1) λJ=>?_))
  refine Fb (as:=.cons y .nil) (R:=λps η=>∃S,((one ps).bind (ro true · η))=some S/\oO (λe η Q=>WS n bd wf e η Q) nD S (S.len η+1) 0 sl η P) (.inr (.inr ⟨_,rfl⟩)) H (by show (f sc m q.2).bind _=_;rw [h1];rfl) C1 hw.2 λ{us s2 Z ps t9} e2 C2 rs hw=>hw.elim λS z=>?_
  refine jg z.1 λo ho h=>Jd (vs:=us) (wR ho▸rs) λu ru=>jg h λr hr h=>jg h λl hl h=>xc h λcl h=>uF (v:=u) C2.B (uG hr▸ru) (vK hl) λd us m' ea e rs=>call_reversed_list (oE e) ?_
  have hit:oP Z (s2.heap.push (revObj d ((us.toArray.size:Int) - 1))) s2.heap.objs.size 0 (.rev r.1 r.2 l.length):=⟨_,bK _ rfl,d,ea,bx _,rfl,by rw [<-rs.length];simp [revObj]⟩
  have e:=ai h
  exact TX (s:={ s2 with heap:=s2.heap.push (revObj d ((us.toArray.size:Int) - 1)) }) hit (Uv HB ht hb C (e1.trans e2) C2.B hit (show oO _ nD _ _ 0 sl t9 P from e▸z.2) k)
theorem ahA{te:Expr}(H:kK w n f)(T:oj w n t)(HB:yI w n c)(h:((t sc m te).bind λte=>(c sc m body).map (.qO te))=some x)(C:At w n X η sc m env sl s A)(hw:W1 n x wf sl η P)(k:sJ w n X sc m env s A P Q):wpAny (model pw w) A (exec (.While te body [] pos) env) Q E s:=
 jg h λz8 h1 h=>jq h λbd hb e=>wpAny_While (codeAny_whileLoop (λnR s'=>∀G:Prop,(∀Y sl η,qv (λe η Q=>W n z8 e η Q) (λe η Q=>WS n bd 0 e η Q) nR sl η P->Ext X s (own sc env) Y s'->At w n Y η sc m env sl s' A->G)->G) (λnR s₁ g=>g _ λY sl η hw E C=>by
  clear g
  cases nR with
 |zero=>exact hw.elim
 |succ nR=>
   refine T (R:=λc η=>(c=true->WS n bd 0 sl η λf e η=>match f with
  |.ret v=>P (.ret v) e η
  |_=>qv (λe η Q=>W n z8 e η Q) (λe η Q=>WS n bd 0 e η Q) nR e η P)/\(c=false->P .next sl η)) h1 C hw id λ{b _ _ _} e1 C1 hw=>?_
   cases b with
  |true=>exact HB hb C1 (hw.1 rfl) λ{_ _ _ _ Ci zZ} e4 C4 r4 hp=>Us (Pn:=qv (λe η Q=>W n z8 e η Q) (λe η Q=>WS n bd 0 e η Q) nR Ci zZ P) (Pr:=λv=>P (.ret v) Ci zZ) r4 hp rfl (λhp=>⟨nR,bG nR,λJ q=>q _ _ _ hp ((E.trans e1.up).trans e4) C4⟩) λr hp=>k (fl:=.ret _) ((E.trans e1.up).trans e4) C4 ⟨_,rfl,r⟩ hp
  |false=>exact wpAny_execs_nil (k (E.trans e1.up) C1 rfl (hw.2 rfl))) wf λJ q=>q X sl η (show W1 n (.qO z8 bd) wf sl η P from e▸hw) (.refl ..) C)
theorem ahB{te:Expr}{b o:List Stmt}(T:oj w n t)(HB:yI w n c)(h:((t sc m te).bind λte=>(c sc m b).bind λa=>(c sc m o).map (.ite te a))=some x)(C:At w n X η sc m env sl s A)(hw:W1 n x wf sl η P)(k:sJ w n X sc m env s A P Q):wpAny (model pw w) A (exec (.If te b o pos) env) Q E s:=
 jg h λz8 h1 h=>jg h λbb hb h=>jq h λbo ho e=>wpAny_If (T (R:=λc η=>(c=true->WS n bb wf sl η P)/\(c=false->WS n bo wf sl η P)) h1 C (show W1 n (.ite z8 bb bo) wf sl η P from e▸hw) id λ{b _ _ _} e1 C1 hw=>match b,hw with
 |true,hw=>HB hb C1 (hw.1 rfl) λe2=>k (e1.up.trans e2)
 |false,hw=>HB ho C1 (hw.2 rfl) λe2=>k (e1.up.trans e2))
theorem ahC(H:kK w n f)(h:cond (isCall e) ((f sc m e).map .expr) none=some x)(C:At w n X η sc m env sl s A)(hw:W1 n x wf sl η P)(k:sJ w n X sc m env s A P Q):wpAny (model pw w) A (exec (.Expr e pos) env) Q E s:=by
 refine xc h λc h=>jq h λy h1 e'=>wpAny_Expr_any (H.go h1 C (show W1 n (.expr y) wf sl η P from e'▸hw) λe1 C1 r1 hw=>k e1.up C1 rfl hw.2) (by unfold interactive;rw [C.F.k];rfl) ?_
 clear h1 h
 induction e using PySem.Expr.casesOn<;>first|rfl|exact xf c
theorem ahD{st:Stmt}(G:Good w tab)(H:kK w n f)(T:oj w n t)(HB:yI w n c)(h:Tj tab f t c sc m st=some x)(C:At w n X η sc m env sl s A)(hw:W1 n x wf sl η P)(k:sJ w n X sc m env s A P Q):wpAny (model pw w) A (exec st env) Q E s:=by
 induction st using PySem.Stmt.casesOn with
|Expr e p=>exact ahC H h C hw k
|Assign ts v p=>exact jg h λtg ho h=>wR ho▸ahu G H T h C hw k
|AugAssign tg op v p=>exact xc h λc h=>Ji c▸ahv G H h C hw k
|If te b o p=>exact ahB T HB h C hw k
|While te b o p=>exact xc h λc h=>dR.mp c▸ahA H T HB h C hw k
|For tg it b o p=>exact xc h λc h=>dR.mp c▸ahz G H HB h C hw k
|Return e p=>
  cases e with
 |none=>exact wpAny_Return_none (k (fl:=.ret .none) (.refl ..) C ⟨_,rfl,.none⟩ (show W1 n .EX wf sl η P from ai h▸hw))
 |some e=>exact jq h λy h1 e'=>wpAny_Return_some (H.go h1 C (show W1 n (.ret y) wf sl η P from e'▸hw) λe1 C1 r1 hw=>k (fl:=.ret _) e1.up C1 ⟨_,rfl,r1⟩ hw)
|Continue p=>exact wpAny_Continue (k (fl:=.cont) (.refl ..) C rfl (show W1 n .cont wf sl η P from ai h▸hw))
|_=>exact xn h
theorem ahE(G:Good w tab)(k:Nat):yI w n (zV tab k):=by
 induction k with
|zero=>exact λh=>xn h
|succ k ih=>
  intro sc m b x h wf env sl A X η s P Q E C hw q
  cases b with
 |nil=>exact wpAny_execs_nil (q (fl:=.next) (.refl ..) C rfl (show WS n .nil wf sl η P from ai h▸hw))
 |cons st r=>
   refine jg h λy h1 h=>jq h λz h2 e=>wpAny_execs_cons (ahD G (J6 G k).1.1 (J6 G k).2.2 ih h1 C (show WS n (.cons y z) wf sl η P from e▸hw) λ{fl v s1 Y sl1 Fe} e1 C1 r1 hp=>?_)
   cases fl with
  |next=>exact r1▸ih h2 C1 hp λe2=>q (e1.trans e2)
  |cont=>exact r1▸q (fl:=.cont) e1 C1 rfl hp
  |ret p=>exact ay r1 λu z=>z.1▸q (fl:=.ret p) e1 C1 ⟨u,rfl,z.2⟩ hp
end
end
set_option backward.match.sparseCases true
section
open PySem.SeqAt
section
variable{X:Em}{xs:List Str}{ds vs ws:List PV}{dv:List Value}{ρ:Loc}
theorem Ka{α:Type}{ds vs:List α}{ρ:List (Str×α)}{G:Prop}(h:bindG xs ds vs=some ρ)(k:vs.length<=xs.length->xs.length - ds.length<=vs.length->xs.zip (vs++ds.drop (vs.length - (xs.length - ds.length)))=ρ->G):G:=
 xc h λc h=>xb c λc1 c2=>k (b5 c1) (b5 c2) (ai h)
theorem jr.drop{l:List PV}:∀{vs:List Value} (k:Nat),jr X vs l->jr X (vs.drop k) (l.drop k):=by
 induction l with
|nil=>exact λk rs=>oM rs (by rw [List.drop_nil,List.drop_nil];exact .nil)
|cons p l ih=>exact λk rs=>match k with
 |0=>rs
 |k+1=>mK rs λv vs r rs=>ih k rs
theorem ahF{l:List PV}{xs:List Str}:∀{vs:List Value},jr X vs l->KR X (xs.zip vs) (xs.zip l):=by
 induction l generalizing xs with
|nil=>exact λrs=>oM rs (by rw [iH,iH];exact .nil)
|cons p l ih=>exact λrs=>mK rs λv vs r rs=>match xs with
 |[]=>.nil
 |x::xs=>.cons r (ih rs)
theorem ahG(h:bindG xs ds vs=some ρ)(hd:jr X dv ds)(hv:jr X us vs):∃b,bindG xs dv us=some b/\KR X b ρ:=
 xc h λc h=>⟨xs.zip (us++dv.drop (us.length - (xs.length - dv.length))),by
  unfold bindG
  rw [hd.length,hv.length,c]
  rfl,ai h▸hd.length▸hv.length▸ahF (hv.append (hd.drop _))⟩
theorem Uw{α:Type}{ds vs:List α}{ρ:List (Str×α)}(h:bindG xs ds vs=some ρ):ρ.map az=xs:=Ka h λa b e=>e▸List.map_fst_zip (by
  rw [aE,List.length_drop]
  exact iI.mp (gQ (iJ a b▸fP.mpr (iI.mp (ak _)))))
noncomputable def vZ(σ:List (Str×Value))(p:Str×Value):List (Str×Value):=if (σ.lookup p.1).isNone then σ++[p] else σ
theorem ahH{τ:List (Str×Value)}{x:Str}{σ:List (Str×Value)}:(σ++τ).lookup x=(σ.lookup x).or (τ.lookup x):=by
 induction σ with
|nil=>rfl
|cons p σ ih=>
  rw [bW,bB,bB,ih]
  cases x == p.1<;>rfl
theorem ahI{x:Str}{ps:List (Str×Value)}:∀{σ:List (Str×Value)},(ps.foldl vZ σ).lookup x=(σ.lookup x).or (ps.lookup x):=by
 induction ps with
|nil=>exact λ{σ}=>(Option.or_none ..).symm
|cons p ps ih=>
  refine λ{σ}=>ih.trans ?_
  have:(vZ σ p).lookup x=(σ.lookup x).or ([p].lookup x):=by
   unfold vZ
   by_cases c:(σ.lookup p.1).isNone=true
   ·rw [if_pos c];exact ahH
   ·rw [if_neg c,bB]
    by_cases q:x=p.1
    ·subst q
     cases h:σ.lookup p.1 with
    |none=>exact absurd (h▸rfl) c
    |some _=>rfl
    ·rw [beq_eq_false_iff_ne.mpr q]
     exact (Option.or_none ..).symm
  rw [this,bB,bB,Option.or_assoc]
  cases x == p.1<;>rfl
theorem Kd{x:Str}{xs:List Str}:∀{vs:List Value} {i:Nat},xs.Nodup->xs[i]?=some x->(xs.zip vs).lookup x=vs[i]?:=by
 induction xs with
|nil=>exact λJ h=>xn h
|cons y xs ih=>
  intro vs i nd h
  have nd:=bw.mp nd
  cases vs with
 |nil=>exact List.getElem?_nil.symm
 |cons v vs=>
   rw [List.zip_cons_cons,bB]
   cases i with
  |zero=>rw [ai h,beq_self_eq_true];rfl
  |succ i=>
    rw [beq_eq_false_iff_ne.mpr λe:x=y=>nd.1 (e▸gp h)]
    exact ih nd.2 h
theorem ahJ{σ:List (Str×Value)}{ρ:List (Str×Value)}(h:∀{i:Nat} {x v},ρ[i]?=some (x,v)->σ.lookup x=some v):(ρ.map (·.1)).filterMap (λk=>(σ.lookup k).map (k,·))=ρ:=by
 induction ρ with
|nil=>rfl
|cons p ρ ih=>
  rw [bT,fj,h (i:=0) rfl,ih λ{i _ _} q=>h (i:=i+1) q]
  rfl
variable{M:Model}{s:Shared}{E:Value->Shared->Prop}
theorem ahK{Q:List (Str×Value)->Shared->Prop}{ps:List (Str×Value)}:∀{σ:List (Str×Value)},Q (ps.foldl vZ σ) s->wpAny M A (forIn ps σ λx __s=>if (cN x.fst __s).isNone=true then pure (cB (__s++[(x.fst,x.snd)])) else pure (cB __s)) Q E s:=by
 induction ps with
|nil=>exact λh=>wpAny_pure h
|cons p ps ih=>
  intro σ h
  rw [eZ]
  refine wpAny_bind (wpAny_mono (Q:=λr s'=>r=.yield (vZ σ p)/\s'=s) ?_ (λr s' z=>z.1▸z.2▸ih h) λJ J x=>x)
  unfold vZ
  split<;>exact wpAny_pure ⟨rfl,rfl⟩
theorem Ux{α:Type}{c:Prop}[Decidable c]{a b:Sem α}{Q:α->Shared->Prop}(h:¬ c)(k:wpAny M A b Q E s):wpAny M A (if c then a else b) Q E s:=by
 rw [if_neg h];exact k
theorem ahL{b:List (Str×Value)}(nd:xs.Nodup)(hb:bindG xs dv us=some b):(xs++[]).filterMap (λk=>(cN k (dZ vZ (xs.zip us) ((xs.drop (xs.length - dv.length)).zip dv))).map (k,·))=b:=by
 rw [bU]
 have key:=ahJ (σ:=dZ vZ (xs.zip us) ((xs.drop (xs.length - dv.length)).zip dv)) (ρ:=b) λ{i x v} hi=>Ka hb λJ g2 g3=>by
  have hz:=List.getElem?_zip_eq_some.mp (g3▸hi)
  have h2:=hz.2
  rw [ahI,Kd nd hz.1]
  by_cases c:i<us.length
  ·rw [fR c] at h2
   rw [h2]
   rfl
  ·have c:=dG c
   rw [fk c,iK,bX,iJ c g2] at h2
   rw [cy c]
   exact (Kd (nd.sublist (List.drop_sublist _ _)) (iK.trans ((congrArg (xs[·]?) (Nat.add_sub_cancel' (ah g2 c))).trans hz.1))).trans h2
 exact Uw hb▸key
theorem ahM(nd:xs.Nodup)(hd:xs.length - dv.length<=us.length):¬ (!(fu (λn=>(cN n (xs.zip us)).isNone) (List.take (xs.length - dv.length) xs)).isEmpty)=true:=by
 rw [show fu (λn=>(cN n (xs.zip us)).isNone) (List.take (xs.length - dv.length) xs)=[] from gq.mpr λx hx=>?_]
 ·exact nofun
 ·obtain ⟨i,hi,e⟩:=List.mem_take_iff_getElem.mp hx
  rw [Kd nd (e▸aR _),aR (aA (aA hi (fJ ..)) hd)]
  exact nofun
def Bd(xs:List Str)(us dv:List Value)(Q:List (Str×Value)->Prop):Prop:=
 us.length<=xs.length/\(¬ (!(fu (λn=>(cN n (xs.zip us)).isNone) (List.take (xs.length - (dg (dv.length - xs.length) dv).length) xs)).isEmpty)=true)/\
  Q ((xs++[]).filterMap (λk=>(cN k (dZ vZ (xs.zip us) ((xs.drop (xs.length - (dg (dv.length - xs.length) dv).length)).zip (dg (dv.length - xs.length) dv)))).map (k,·)))
noncomputable abbrev ua(ar:List Arg):List Str:=ar.map (·.arg)
theorem bind_eq{qn:Str}{ar:List Arg}{kd:List (Option Expr)}{dl:List Expr}{bo:FuncBody}{sc:Scope}{gl:Addr}{cl:List (Str×Addr)}{df kdf dc pm:Value}{an:Option Addr}{cd ct:Value}{bi:Addr}:∃e1 e2:Option (Array Value)->Sem (List (Str×Value)),
  PySem.bindArgs ⟨nm,qn,⟨[],ar,none,[],kd,none,dl⟩,bo,sc,gl,cl,df,kdf,dc,pm,an,cd,ct,bi⟩ ⟨us,[]⟩=(seqItems? df >>= λr=>if (decide (us.length>(ua ar).length) && true)=true then e1 r else
   if (!(fu (λn=>(cN n ((ua ar).zip us)).isNone) (List.take ((ua ar).length - (dg ((r.getD #[]).toList.length - (ua ar).length) (r.getD #[]).toList).length) (ua ar))).isEmpty)=true then e2 r else
   (forIn (((ua ar).drop ((ua ar).length - (dg ((r.getD #[]).toList.length - (ua ar).length) (r.getD #[]).toList).length)).zip (dg ((r.getD #[]).toList.length - (ua ar).length) (r.getD #[]).toList)) ((ua ar).zip us) λx __s=>if (cN x.fst __s).isNone=true then pure (cB (__s++[(x.fst,x.snd)])) else pure (cB __s)) >>= λσ=>pure ((ua ar++[]).filterMap (λk=>(cN k σ).map (k,·)))):=⟨_,_,rfl⟩
theorem ahN{qn:Str}{ar:List Arg}{kd:List (Option Expr)}{dl:List Expr}{bo:FuncBody}{sc:Scope}{gl:Addr}{cl:List (Str×Addr)}{df kdf dc pm:Value}{an:Option Addr}{cd ct:Value}{bi:Addr}{Q:List (Str×Value)->Shared->Prop}{D:Option (Array Value)->Prop}
  (hs:∀{Q:Option (Array Value)->Shared->Prop},(∀r,D r->Q r s)->wpAny M A (seqItems? df) Q E s) (h:∀r,D r->Bd (ar.map (·.arg)) us (r.getD #[]).toList (Q · s)) :
  wpAny M A (PySem.bindArgs ⟨nm,qn,⟨[],ar,none,[],kd,none,dl⟩,bo,sc,gl,cl,df,kdf,dc,pm,an,cd,ct,bi⟩ ⟨us,[]⟩) Q E s:=
 bind_eq.elim λe1 z=>z.elim λe2 z=>z▸wpAny_bind (hs λr hr=>(h r hr).elim λh1 h2=>h2.elim λh2 h3=>Ux (λc=>Nat.not_lt_of_le h1 (of_decide_eq_true (xb c λh J=>h))) (Ux h2 (wpAny_bind (ahK (wpAny_pure h3)))))
theorem ahO{fd:FuncData}(O:JG fd.params):fd=⟨fd.name,fd.qualname,⟨[],fd.params.args,none,[],fd.params.kw_defaults,none,fd.params.defaults⟩,fd.body,fd.scope,fd.globals,fd.closure,fd.defaults,fd.kwdefaults,fd.doc,fd.pyModule,fd.annotations,fd.code,fd.closureTuple,fd.builtins⟩:=by
 refine congrArg (λp=>{ fd with params:=p }) (?_:fd.params=_)
 revert O
 generalize fd.params=p
 exact λO=>(by obtain ⟨po,ar,va,ko,kd,kw,dl⟩:=p;obtain ⟨rfl,rfl,rfl,rfl,_⟩:=O;rfl)
theorem ahP{fd:FuncData}{b:List (Str×Value)}{Q:List (Str×Value)->Shared->Prop}(O:JG fd.params)(hd:dv.length<=(fd.params.args.map (·.arg)).length)
  (hs:∀{Q:Option (Array Value)->Shared->Prop},(∀r,(r.getD #[]).toList=dv->Q r s)->wpAny M A (seqItems? fd.defaults) Q E s) (hb:bindG (fd.params.args.map (·.arg)) dv us=some b) (h:Q b s):wpAny M A (PySem.bindArgs fd ⟨us,[]⟩) Q E s:=by
 refine (congrArg (λx=>wpAny M A (PySem.bindArgs x ⟨us,[]⟩) Q E s) (ahO O)).mpr (ahN hs λr hr=>?_)
 have d0:dg (dv.length - (fd.params.args.map (·.arg)).length) dv=dv:=by rw [Nat.sub_eq_zero_of_le hd];rfl
 unfold Bd
 rw [hr,d0,ahL O.nd hb]
 exact Ka hb λg1 g2 J=>⟨g1,ahM O.nd g2,h⟩
end
end
set_option backward.match.sparseCases false
section
open PySem.SeqAt
noncomputable def z9:Nat->List Str->Sm
|_,[]=>[]
|i,x::r=>(x,i)::z9 (i+1) r
def ownNames(ps:List Str):List (Str×NameKind)->List Str
|[]=>[]
|p::r=>cond ((decide (p.2=.local) || decide (p.2=.cell)) && !oN ps p.1) (p.1::ownNames ps r) (ownNames ps r)
def slotsOf(st:Stmt):Sm:=z9 0 (rq st++ownNames (rq st) (tQ st).names)
def codeOf(T:Tab)(a:Addr)(n:Nat):Option (Nat×jn):=(jv T.pG a).bind λfi=>cond (wW (slotsOf fi.st)) ((zV T n (tQ fi.st) (slotsOf fi.st) (bodyOf fi.st)).map λss=>((slotsOf fi.st).length - (rq fi.st).length,ss)) none
def sL(T:Tab)(a:Addr)(vs:List PV):Option (List PV):=(jv T.pG a).bind λfi=>(IY (rq fi.st) fi.dflt vs).map (·.map cP)
noncomputable def o6(as:List PV)(n:Nat):Sl:=as.map some++bq n none
def nc(Q:PV->AH->Prop)(f:Fl)(e:Sl)(η:AH):Prop:=match f with
|.ret v=>Q v η
|.next=>Q .none η
|.cont=>False
def mk(a:Addr)(η:AH):AH:=cond (MK.any (aj · a)) η.fresh η
section
variable{X:Em}{x:Str}{p:PV}
theorem ahQ{l:List Str}:∀{k i:Nat},ja (z9 k l) x=some i->k<=i:=by
 induction l with
|nil=>exact λh=>xn h
|cons y l ih=>exact λ{k i} h=>mE (show cond (sq y x) (some k) (ja (z9 (k+1) l) x)=some i from h) (λJ h=>aq (ai h)) λJ h=>cw (ih h)
theorem Uy:∀{n i:Nat},look (bq n none) i=none
|0,_=>rfl
|n+1,0=>rfl
|n+1,i+1=>Uy (n:=n) (i:=i)
theorem ahR{rest:List Str}{ρ:Loc}:∀{k i:Nat},ja (z9 k (ρ.map az++rest)) x=some (k+i)->look (o6 (ρ.map cP) n) i=some p->ja ρ x=some p:=by
 induction ρ with
|nil=>exact λJ hl=>xn (Uy.symm.trans hl)
|cons q ρ ih=>exact λ{k i} h hl=>mE (show cond (sq q.1 x) (some k) (ja (z9 (k+1) (ρ.map az++rest)) x)=some (k+i) from h) (λc h=>by
   obtain rfl:i=0:=(Nat.add_eq_left.mp (ai h).symm)
   exact (congrArg (λb=>cond b (some q.2) (ja ρ x)) c).trans hl) λc h=>match i with
  |0=>absurd (ahQ h) (iF k)
  |i+1=>(congrArg (λb=>cond b (some q.2) (ja ρ x)) c).trans (ih (k:=k+1) (i:=i) (h.trans (congrArg some (cu k i).symm)) hl)
noncomputable def bF(c:Str->Bool):List (Str×Value)->(Str->Option Value)->Str->Option Value
|[],m=>m
|p::b,m=>bF c b (cond (c p.1) (λy=>if y=p.1 then some p.2 else m y) m)
theorem Uz{c:Str->Bool}(hc:c x=true){b:List (Str×Value)}:∀{m:Str->Option Value},(b.map (·.1)).Nodup->bF c b m x=(b.lookup x).or (m x):=by
 induction b with
|nil=>exact λJ=>rfl
|cons p b ih=>
  intro m nd
  have nd:=bw.mp nd
  refine (ih nd.2).trans ?_
  rw [bB]
  by_cases e:x=p.1
  ·subst e
   rw [hc,beq_self_eq_true,show b.lookup p.1=none from xo _ id λv h=>absurd (aQ.mpr ⟨_,mem_of_lookup h,rfl⟩) nd.1]
   exact if_pos rfl
  ·rw [beq_eq_false_iff_ne.mpr e]
   cases c p.1
   ·rfl
   ·exact congrArg _ (if_neg e)
theorem ahS{k:Str->Option NameKind}{b:List (Str×Value)}:∀{m:Str->Option Value},bindL k b m=bF (λy=>decide (k y=some .local)) b m:=by
 induction b with
|nil=>exact rfl
|cons p b ih=>exact ih.trans (congrArg (bF _ b) (tR rfl _ _).symm)
theorem ahT{k:Str->Option NameKind}{b:List (Str×Value)}:∀{m:Str->Option Value},bindC k b m=bF (λy=>!decide (k y=some .local)) b m:=by
 induction b with
|nil=>exact rfl
|cons p b ih=>exact ih.trans (congrArg (bF _ b) (by
   show (if k p.1=some .local then _ else _)=cond (!decide (k p.1=some .local)) _ _
   by_cases h:k p.1=some .local
   ·rw [if_pos h,decide_eq_true h];rfl
   ·rw [if_neg h,decide_eq_false h];rfl))
theorem UA{ρ:Loc}:∀{b:List (Str×Value)},KR X b ρ->ja ρ x=some p->∃v,b.lookup x=some v/\VR X v p:=by
 induction ρ with
|nil=>exact λJ h=>xn h
|cons q ρ ih=>exact λr h=>vt r λv us rv rs=>mE (show cond (sq q.1 x) (some q.2) (ja ρ x)=some p from h) (λc h=>⟨v,by rw [bB,jS.mp c,beq_self_eq_true],ai h▸rv⟩) λc h=>(ih rs h).elim λu z=>⟨u,by rw [bB,beq_eq_false_iff_ne.mpr λe=>xf (c.symm.trans (jS.mpr e.symm))];exact z.1,z.2⟩
theorem UB{ρ:Loc}:∀{b:List (Str×Value)},KR X b ρ->b.map (·.1)=ρ.map (·.1):=by
 induction ρ with
|nil=>exact λr=>Bv r rfl
|cons q ρ ih=>exact λr=>vt r λv us J rs=>congrArg (q.1::·) (ih rs)
theorem UC:∀{k:Nat} {acc:List (Str×Addr)},(x,gu)∈names\/(∃c,acc.lookup x=some c)->∃c,(cellsFrom k names acc).lookup x=some c:=by
 induction names with
|nil=>exact λh=>h.elim (λh=>absurd h aU) id
|cons p r ih=>
  intro k acc h
  show ∃c,(if (p.2 == gu)=true then cellsFrom (k+1) r ((p.1,k)::acc) else cellsFrom k r acc).lookup x=some c
  by_cases q:(p.2 == gu)=true
  ·rw [if_pos q]
   refine ih ?_
   by_cases e:x=p.1
   ·exact .inr ⟨k,by rw [bB,e,beq_self_eq_true]⟩
   ·exact h.elim (λh=>(aB.mp h).elim (λz=>absurd (congrArg az z) e) .inl) λz=>z.elim λc z=>.inr ⟨c,by rw [bB,beq_eq_false_iff_ne.mpr e];exact z⟩
  ·rw [if_neg q]
   exact ih (h.imp (λh=>(aB.mp h).elim (λz=>absurd (beq_iff_eq.mpr (congrArg cP z).symm) q) id) id)
end
section
variable{w:World}{X:Em}{s:Shared}{k wf N:Nat}{ss:jn}{a:Addr}{vs:List PV}{ρ:Loc}{Q:PV->AH->Prop}{fi:rj}{o:Obj}{fd:FuncData}{dv:List Value}
theorem ahU{s₁:Shared}{env:Env}{b:List (Str×Value)}(D:FnAt w a fi o fd dv)(hp:ρ.map (·.1)=rq fi.st)(kb:KR X b ρ)(B:Base w X η s.heap)(he:env=newEnv fd.scope s.heap.objs.size fd.globals (cellsFrom (s.heap.objs.size+1) fd.scope.names []) (fd.qualname++".<locals>.") (some a) fd.code none fd.builtins)
  (I:InCallC s env.locals (bindL env.kindOf b λJ=>none) env.cells (bindC env.kindOf b λJ=>none) s₁):Fr X (tQ fi.st) env (yE (slotsOf fi.st) (o6 (ρ.map cP) N)) s₁.heap:=by
 have eL:env.locals=s.heap.objs.size:=by rw [he];rfl
 have eC:env.cells=cellsFrom (s.heap.objs.size+1) fd.scope.names []:=by rw [he];rfl
 have eK:∀y,env.kindOf y=kindS (tQ fi.st) y:=λy=>by
  rw [<-D.sc]
  exact (show env.kindOf y=fd.scope.names.lookup y by rw [he];rfl).trans (wO ..).symm
 have nd:(b.map (·.1)).Nodup:=by rw [UB kb,hp,<-D.pr];exact D.po.nd
 have jt:∀{y p},yE (slotsOf fi.st) (o6 (ρ.map cP) N) y=some p->ja ρ y=some p/\y∈rq fi.st:=λ{y p} g=>jg g λi hi hl=>by
  have e:ja ρ y=some p:=ahR (k:=0) (rest:=ownNames (rq fi.st) (tQ fi.st).names) (i:=i) (by rw [cU,hp];exact hi) hl
  exact ⟨e,hp▸aQ.mpr ⟨_,tS e,rfl⟩⟩
 have EB:∀{y},kindS (tQ fi.st) y=some .cell->∃c,env.cells.lookup y=some c:=λ{y} h=>eC▸UC (.inl (by rw [D.sc];exact tS h))
 have ok:=D.ok
 rw [D.sc] at ok
 refine xb ok λok1 Cm=>?_
 have nf:∀{y},kindS (tQ fi.st) y≠some .free:=λh=>absurd rfl (of_decide_eq_false ((cM _).mp (aI.mp Cm _ (tS h))))
 have hi:∀{y c},env.cells.lookup y=some c->s.heap.objs.size<c:=λh=>eL▸I.above _ _ (mem_of_lookup h)
 exact {
  k:=(by rw [he];exact D.kd)
  g:=(by rw [he];exact D.gl)
  b:=(by rw [he];exact D.bi)
  kd:=λh=>.inl ((eK _).trans h)
  db:=T9 ok1
  ns:=⟨_,I.toInCall.ns,λh g=>(UA kb (jt g).1).elim λv z=>⟨v,by rw [ahS,Uz (decide_eq_true ((eK _).trans h)) nd,z.1];rfl,z.2⟩⟩
  ut:=B.off (aq eL.symm)
  ce:=λh=>⟨B.off (aD (hi h)),λe=>aM _ (eL▸e▸hi h),_,I.cell _ _ h⟩
  ap:=λh h'=>name_of_addr I.apart (mem_of_lookup h) (mem_of_lookup h')
  cv:=λ{y p} h g=>h.elim (λh=>(EB h).elim λc hc=>(UA kb (jt g).1).elim λv z=>⟨c,v,hc,(by
   have:=I.cell _ _ hc
   rw [ahT,Uz (by rw [eK,h];rfl) nd,z.1] at this
   exact this),z.2⟩) λh=>absurd h nf
  cl:=λh=>h.elim EB λh=>absurd h nf }
theorem UD{R:Result->Shared->Prop}(G:Good w tab)(D:FnAt w a fi o fd dv)(hm:wW (slotsOf fi.st)=true)(hs:zV tab n (tQ fi.st) (slotsOf fi.st) (bodyOf fi.st)=some ss)(hb:IY (rq fi.st) fi.dflt vs=some ρ)(hw:WS k ss wf (o6 (ρ.map cP) N) η (nc Q))
  (B:Base w X η s.heap) (rs:jr X us vs) (rh:A.handled=none) (rd:A.depth+1+2*k<1000) (ru:A.units+3+16*k+16<9900) (q:∀{v s' Y p iY},Ext X s no Y s'->Base w Y iY s'.heap->VR Y v p->Q p iY->R (.ok (.ret v)) s'):codeAny (model pw w) A (.call (.ref a) ⟨us,[]⟩) R s:=by
 have obj:∀{c oc},(objs w.params)[c]?=some oc->s.heap.get? c=some oc:=λe=>B.fz (B.st e)
 refine codeAny_call_function (av (ah (aW _) (aG _ _)) rd) (obj D.ob) D.da D.co D.ge D.bo (D.cd.elim λc z=>z.elim λoc z=>z.elim λcs z=>z.elim λt z=>⟨c,oc,cs,t,z.1,obj z.2.1,z.2.2⟩) ?_
 have hp:=Uw hb
 refine (ahG hb (D.dr X η s.heap B) rs).elim λb z=>?_
 have kb:=z.2
 have nm:=UB kb
 rw [hp] at nm
 refine ahP (dv:=dv) (b:=b) D.po D.dl (λ{Q} hQ=>D.df.elim (λe=>e.1▸wpAny_pure (hQ none e.2.symm)) λz=>z.elim λd z=>z.elim λod z=>z.elim λm z=>z.1▸wpAny_seqItems (obj z.2.1) z.2.2 (hQ _ rfl)) (D.pr▸z.1) ?_
 rw [D.cl]
 refine wpAny_newFunctionEnv_cells D.kd (λx hx=>(D.bn x.1 (nm▸aQ.mpr ⟨x,hx,rfl⟩)).imp id λh=>⟨h,(UC (k:=s.heap.objs.size+1) (acc:=[]) (.inl (mem_of_lookup h))).elim λc z=>z▸rfl⟩) λenv he s₁ I=>?_
 have keep:=I.toInCall.keep
 refine ⟨(G.nl B).keeps keep,codeAny_func ?_⟩
 have F:=ahU (N:=N) D hp kb B he I
 have E0:Ext X s no X s₁:=I.toInCall.same.elim λTK z=>z.elim λtk z=>.grow keep (z▸rfl) (z▸rfl)
 refine ahE G n hs ⟨B.move λJ=>keep _ _,F,⟨rh,rd,ru⟩,hm⟩ hw λ{fl v s' Y kT iY} e C r hp=>?_
 have eL:env.locals=s.heap.objs.size:=by rw [he];rfl
 have E1:Ext X s no Y s':=E0.into e λc oc hc J q=>aM _ (aA (cH hc) ((EA q).elim (λq=>aq (q.trans eL).symm) λq=>q.elim λy q=>aD (eL▸I.above _ _ (mem_of_lookup q))))
 cases fl with
|next=>exact r▸q E1 C.B .none hp
|cont=>exact hp.elim
|ret p=>exact ay r λu z=>z.1▸q E1 C.B z.2 hp
end
end
set_option backward.match.sparseCases true
section
open PySem.SeqAt
section
variable{w:World}{X:Em}{iY:AH}{s s':Shared}{u x:Value}{v t p:PV}{b:Bool}{c:Addr}{z:PV×AH}{Q:Value->Shared->Prop}{E:Value->Shared->Prop}
theorem Cp{K:Frag}{C:Addr}{t:String}(h:((clsIn K C).isSome && typeIn K (.ref C) == some (.type "type"))=true){l:List Value}(hm:fastBuiltinMro t=some l)(hl:l.contains (.ref C)=false):kitOne K (.type t) (.ref C)=some false:=by
 unfold kitOne kitCls
 rw [if_neg (show ¬ ((Value.type t == er C)=true) from nofun)]
 dsimp only
 rw [if_pos h]
 show (fastBuiltinMro t).map (·.contains (.ref C))=_
 rw [hm]
 exact congrArg some hl
noncomputable abbrev UE:List String:=["NoneType","bool","int","str","tuple"]
noncomputable abbrev UG:List String:=["bool","int","str"]
theorem ahV{K:Frag}:(UE.all λt=>UG.all λn=>kitOne K (.type t) (.type n) == some (t == n || (t == "bool" && n == "int")))=true:=by kernel_rfl
theorem ahW{t:String}(h:zI v=some t):t∈UE:=by
 cases v<;>first|exact xn h|exact ai h▸by decide
theorem ahX{n:String}(c:(n == "bool" || n == "int" || n == "str")=true):n∈UG:=((bC ..).mp c).elim (λc=>((bC ..).mp c).elim (λc=>beq_iff_eq.mp c▸by decide) λc=>beq_iff_eq.mp c▸by decide) λc=>beq_iff_eq.mp c▸by decide
theorem ahY{K:Frag}{t:String}{C:Addr}(h:zI v=some t)(hc:((clsIn K C).isSome && typeIn K (.ref C) == some (.type "type"))=true):kitOne K (.type t) (.ref C)=some false:=by
 induction v using PV.casesOn with
|none=>exact ai h▸Cp hc (l:=[.type "NoneType",.type "object"]) (by kernel_rfl) rfl
|bool _=>exact ai h▸Cp hc (l:=[.type "bool",.type "int",.type "object"]) (by kernel_rfl) rfl
|int _=>exact ai h▸Cp hc (l:=[.type "int",.type "object"]) (by kernel_rfl) rfl
|str _=>exact ai h▸Cp hc (l:=[.type "str",.type "object"]) (by kernel_rfl) rfl
|tup _=>exact ai h▸Cp hc (l:=[.type "tuple",.type "object"]) (by kernel_rfl) rfl
|_=>exact xn h
theorem UH{t:String}(r:VR X u v)(B:Base w X η s.heap)(h:zI v=some t)(e:kitOne (Kf w.params) (.type t) x=some b)(k:∀tk,Q (.bool b) { s with toks:=tk }):wpAny (model pw w) A (call (.builtin "isinstance") [u,x]) Q E s:=by
 induction v using PV.casesOn with
|none=>exact vN r (kia_one kitx_none B.kf trivial (ai h▸e) nofun k)
|bool _=>exact vB r (kia_one kitx_bool B.kf trivial (ai h▸e) nofun k)
|int _=>exact vI r λJ=>kia_one kitx_int B.kf trivial (ai h▸e) nofun k
|str _=>exact vS r λJ=>kia_one kitx_str B.kf trivial (ai h▸e) nofun k
|tup _=>exact vU r λJ J J ea J=>kia_one kitx_tuple B.kf ⟨_,B.fz ea,rfl⟩ (ai h▸e) nofun k
|_=>exact xn h
theorem UI{bs:List Addr}(BO:EV w.params tab)(r:VR X u v)(B:Base w X η s.heap)(h:clsOf v η=some c)(hb:jv tab.bases c=some bs)(e:kitOne (Kf w.params) (.ref c) x=some b)(k:∀tk,Q (.bool b) { s with toks:=tk }):wpAny (model pw w) A (call (.builtin "isinstance") [u,x]) Q E s:=
 jg h λo e1 h=>jq h λd e2 e3=>Ex (v:=u) B (uG e1▸r) (Er e2) λa dx m o ea ed I lk J J=>
  have C:=BO.c _ _ hb
  kia_one (kitx_own C.hg C.hd C.ha C.hn C.ht C.hm) B.kf (e3▸I) e nofun k
theorem UJ{f:String->Option Bool}{g:Addr->Option Bool}{G:Prop}(h:yl v η f g=some b)(a:∀t,zI v=some t->f t=some b->G)(c:∀c,clsOf v η=some c->g c=some b->G):G:=by
 unfold yl at h
 cases e:zI v with
|none=>rw [e] at h;exact jg h λk e h=>c k e h
|some t=>rw [e] at h;exact a t e h
theorem ahZ(BO:EV w.params tab)(h:QG v t tab η=some b)(r:VR X u v)(rt:VR X x t)(B:Base w X η s.heap)(k:∀tk,Q (.bool b) { s with toks:=tk }):wpAny (model pw w) A (call (.builtin "isinstance") [u,x]) Q E s:=by
 refine jg h λy e h1=>vT (v:=x) (J' e▸rt) λJ=>?_
 clear h rt e
 induction y using Value.casesOn with
|«type» m=>exact xc h1 λc h=>UJ h (λt e h=>UH r B e (h▸beq_iff_eq.mp (aI.mp (aI.mp ahV t (ahW e)) m (ahX c))) k) λc' e h=>jq h λbs hb e2=>UI BO r B e hb (e2▸((bC ..).mp c).elim (λc=>((bC ..).mp c).elim (λc=>beq_iff_eq.mp c▸(BO.c _ _ hb).pb) λc=>beq_iff_eq.mp c▸(BO.c _ _ hb).pi) λc=>beq_iff_eq.mp c▸(BO.c _ _ hb).ps) k
|ref a=>exact xc h1 λc h=>(cz.mp c).elim λB7 hc=>UJ h (λt e h=>UH r B e (h▸ahY e (BO.c _ _ hc).cl) k) λc' e h=>jq h λbs hb e2=>UI BO r B e hb (e2▸BO.m _ _ _ _ hb hc) k
|_=>exact xn h1
theorem ah0{l:List (Str×PV)}:∀{kvs:List (Str×Value)} {vs:List Value},KR X kvs l->vs.length=kvs.length->(∀(j:Nat) (v:Value),vs[j]?=some v->∃k x,kvs[j]?=some (k,x)/\(PySem.strKind pw w).is k v=true)->jr X vs (l.map λp=>.str p.1):=by
 induction l with
|nil=>exact λ{_ vs} R hl _=>iA (hl.trans (tT R))
|cons p l ih=>
  intro kvs vs R hl h
  cases vs with
 |nil=>exact nomatch hl.trans (tT R)
 |cons a b=>exact vt (R:=λkvs=>(a::b).length=kvs.length->(∀(j:Nat) (v:Value),(a::b)[j]?=some v->∃k x,kvs[j]?=some (k,x)/\(PySem.strKind pw w).is k v=true)->jr X (a::b) ((p::l).map λp=>.str p.1)) R (λv us J rs hl h=>.cons ((h 0 a rfl).elim λk z=>z.elim λx z=>TS (w:=w) ((show k=p.1 from congrArg az (ai z.1).symm)▸z.2)) (ih rs (dK hl) λj v e=>h (j+1) v e)) hl h
section
variable(B:Base w X η s.heap)(rv:VR X u v)(k:∀{v s'},GE w X s z.2 z.1 v s'->Q v s')
include B rv k
theorem ah1(h:QH v η=some z):wpAny (model pw w) A (call (.builtin "len") [u]) Q E s:=by
 have go:∀{l:List PV} {ws:List Value} {a:Addr},s.heap.IsList a ws.toArray->jr X ws l->cond (kB l.length) (some (PV.int l.length,η)) none=some z->wpAny (model pw w) A (call (.builtin "len") [.ref a]) Q E s:=λ{l ws a} hl q h=>xc h λc h=>
  call_len_list hl (dX (cF.mpr (xj q c (ak _))) (dc rfl)) (by rw [bM,q.length];exact k (ai h▸.tok B (.int _ _)))
 induction v using PV.casesOn with
|fl l=>exact vF rv λa o ws n e0 ec ed q=>go ⟨_,B.fz e0,ec,_,ed⟩ q h
|ref r i=>exact jg (show (nZ (.ref r i) η).bind _=_ from h) λl hl h=>wQ B hl rv λa ws n e q=>go (oE e) q h
|_=>exact xn h
theorem ah2(h:QI v η=some z):wpAny (model pw w) A (call (.builtin "abs") [u]) Q E s:=jq h λi hi e=>tU (v:=u) hi rv λt=>call_abs_int λu tk=>by
 by_cases c:i<0
 ·rw [if_pos c]
  exact k (e▸.tok B (Int.ofNat_natAbs_of_nonpos (eH c)▸.int _ _))
 ·rw [if_neg c]
  exact k (e▸.tok B ((Int.natAbs_of_nonneg (eM.mp c)).symm▸.int _ _))
theorem ah3(SO:B8 w)(rh:A.handled=none)(ru:A.units+20<9900)(h:QL v η=some z):wpAny (model pw w) A (call (.builtin "sorted") [u]) Q E s:=
 jg h λl hl h=>xc h λc h=>xb c λc1 c2=>jq h λl' hs e=>wQ B hl rv λa ws n e1 q=>SO rh ru e1 q c1 c2 hs B λg=>k (e▸g)
theorem ah4(h:QJ v η=some z):wpAny (model pw w) A (call (.type "range") [u]) Q E s:=
 jg h λi hi h=>xc h λJ h=>tU hi rv λt=>call_range_1 (k (ai h▸frozen (t:=s.toks+2) B { cls:=.type "range",data:=.fields #[.int 0 s.toks,.int i t,.int 1 (s.toks+1)] } rfl λJ e=>.mr e ⟨_,_,_,rfl⟩))
theorem ah5(h:QK v η=some z):wpAny (model pw w) A (call (.type "int") [u]) Q E s:=by
 induction v using PV.casesOn with
|bool b=>exact vB rv (call_int_bool (by cases b<;>exact k (ai h▸.tok B (.int _ _))))
|_=>exact xn h
theorem ah6(h:QM v η=some z):wpAny (model pw w) A (call (.type "dict") [u]) Q E s:=
 jg h λl hl h=>xc h λc h=>TF B hl rv λr i uu a kvs e1 e2 ea g D R nd=>e2▸kt_call_dict (knd:=strKind pw w) (B.vD ea) D (by rw [tT R];exact ah (ql c) (dc rfl)) λh' D' Ca=>
  k (ai h▸Tv (s₁:={ s with heap:=s.heap.push { cls:=.type "dict",data:=.dict #[] } }) (t:=s.toks) (.push (t:=s.toks) ..) (B.push _) (bJ (ak _)) (B.off (ak _)) Ca D' R)
theorem ah7(rh:A.handled=none)(h:listE v η=some z):wpAny (model pw w) A (call (.type "list") [u]) Q E s:=
 jg h λl hl h=>xc h λc h=>jg hl λy e hl=>jq hl λd g e'=>yp (v:=u) B (uG e▸rv) (Ep g) λa kvs e0 ea J D R=>kdl_call (kdl_dict (knd:=strKind pw w) (B.vD ea)) rh D (by rw [tT R,e'];exact ah (ql c) (dc rfl)) λh' tk xq c' hk hD z0=>by
  have B':Base w X η h':=B.move λJ e=>hk _ _ e
  have hvs:=ah0 (e'▸R) (vs:=xq.toList) (by rw [ew];exact z0.1) λj v e=>z0.2 j v (by rw [<-gv];exact e)
  exact k (ai h▸made (s₁:={ s with heap:=h',toks:=tk }) (d:=none) (e:=none) (.grow hk rfl rfl) B' (λ{c} z=>z.elim (λz=>z▸⟨bJ (ak _),B.off (ak _),_,hD⟩) xn) (λz=>xn z) (λJ h=>h) xn ⟨xq.toList,c',hD,hvs.mono B'.zC⟩)
end
theorem Fj{m:String}(h:BH u m=true):u=.builtin m:=by
 cases u<;>first|exact xf h|exact congrArg Value.builtin (beq_iff_eq.mp h)
theorem ah8{vs:List PV}(G:Good w tab)(h:qk tab u vs η=some z)(B:Base w X η s.heap)(rs:jr X us vs)(rh:A.handled=none)(ru:A.units+20<9900)(k:∀{v s'},GE w X s z.2 z.1 v s'->Q v s'):wpAny (model pw w) A (call u us) Q E s:=
 mE h (λc h=>Fj c▸jg h λp hp h=>jq h λb hb e=>vs2 (vs:=us) (QT hp▸rs) λv t r1 r2=>ahZ G.b hb r1 r2 B λtk=>k (e▸.tok B (.bool b))) λJ h=>jg h λv hv h=>Jd (vs:=us) (wR hv▸rs) λx r=>
  mE h (λc h=>Fj c▸ah1 B r k h) λJ h=>mE h (λc h=>Fj c▸ah2 B r k h) λJ h=>mE h (λc h=>Fj c▸ah3 B r k G.s rh ru h) λJ h=>
  mE h (λc h=>Cj c▸ah4 B r k h) λJ h=>mE h (λc h=>Cj c▸ah5 B r k h) λJ h=>mE h (λc h=>Cj c▸ah6 B r k h) λJ h=>mE h (λc h=>Cj c▸ah7 B r k rh h) λJ h=>xn h
end
end
section
open PySem.SeqAt
section
variable{w:World}{X:Em}{s:Shared}{k N nn:Nat}{ss:jn}{a c:Addr}{as vs:List PV}{Q:PV->AH->Prop}
theorem ah9(B:Base w X η s.heap):GE w X s (η.add (.inst c [])) (.ref η.reg η.iZ) (.ref (s.heap.objs.size+1)) { s with heap:=(s.heap.push emptyDict).push (instObj c s.heap.objs.size) }:=
 have up:∀{a o},s.heap.get? a=some o->((s.heap.push emptyDict).push (instObj c s.heap.objs.size)).get? a=some o:=λh=>bS _ (bS _ h)
 have g0:((s.heap.push emptyDict).push (instObj c s.heap.objs.size)).get? s.heap.objs.size=some emptyDict:=bS _ (bK _ rfl)
 have g1:((s.heap.push emptyDict).push (instObj c s.heap.objs.size)).get? (s.heap.objs.size+1)=some (instObj c s.heap.objs.size):=Heap.size_push s.heap emptyDict▸bK _ rfl
 made (s₁:=s) (t:=s.toks) (d:=some s.heap.objs.size) (e:=none) (.refl ..) B (λ{c} z=>z.elim (λz=>z▸⟨bJ (aW _),B.off (aW _),_,g1⟩) λz=>ai z▸⟨bJ (ak _),B.off (ak _),_,g0⟩) (λz=>bI (bG _) (ai z)) (λJ h=>up h) xn
  ⟨s.heap.objs.size,λJ=>none,rfl,g1,⟨emptyDict,#[],0,g0,rfl,λe he=>by simp at he,λJ=>rfl,ak _⟩,λJ=>.inl ⟨rfl,rfl⟩⟩
theorem UK{G:Prop}(hc:codeOf tab a n=some (nn,ss))(hb:sL tab a vs=some as)(k:∀{fi ρ},jv tab.pG a=some fi->wW (slotsOf fi.st)=true->zV tab n (tQ fi.st) (slotsOf fi.st) (bodyOf fi.st)=some ss->IY (rq fi.st) fi.dflt vs=some ρ->ρ.map cP=as->G):G:=
 jg hc λfi hf h=>xc h λhm h=>jq h λs hs e=>jg hb λfi' hf' h=>jq h λρ Cq e'=>by
  obtain rfl:=ai (hf'.symm.trans hf)
  exact k hf hm ((cL e).2▸hs) Cq e'
theorem uH.fn{m:Nat}(r:uH A m)(h:k+1<=m):A.depth+1+1+2*k<1000/\A.units+1+3+16*k+16<9900:=
 have r:=r.less h
 have d:A.depth+(2*k+2)<1000:=r.d
 have u:A.units+(16*k+16)+16<9900:=r.u
 ⟨av (aq (by rw [bX (2*k),bH A.depth,bH A.depth])) d,av (aT (by rw [bH A.units,bH A.units,bX (1+3)];exact aF (aF (dc rfl) _) _) _) u⟩
theorem jb.Kg(wf:Nat)(hc:codeOf tab a n=some (nn,ss))(hb:sL tab a vs=some as)(hw:WS k ss wf (o6 as N) η (nc λv η=>Q v (mk a η))):jb (k+n+wf+1) (.st (.ref a)) vs η Q:=
 UK hc hb @λfi ρ hf hm hs Cq e J G X s A g us R E B r rs rm q=>vT (v:=g) r λJ=>(G.fn hf).elim λo z=>z.elim λfd z=>z.elim λdv D=>
  have L:=rm.fn (k:=k) (aL (ah (aG ..) (aG ..)))
  wpAny_call (UD (N:=N) (wf:=wf) (k:=k) G D hm hs Cq (e▸hw) B rs rm.h (av (aT (aW _) _) L.1) (av (aT (aT (aT (aW _) _) _) _) L.2) λ{v s' Y p iY} e1 B1 r1 hq=>q e1 (by
   unfold mk
   cases MK.any (aj · a)
   ·exact B1
   ·exact B1.ae2) r1 hq)
theorem jb.fn(w:Nat)(hc:codeOf tab a n=some (nn,ss))(hm:MK.any (aj · a)=false)(hb:sL tab a vs=some as)(hw:WS k ss w (o6 as N) η (nc Q)):jb (k+n+w+1) (.st (.ref a)) vs η Q:=by
 refine jb.Kg (N:=N) w hc hb ?_
 unfold mk
 rw [hm]
 exact hw
theorem jb.cls{c:Addr}(w:Nat)(h1:jv tab.pG c=none)(h2:jv tab.oA c=some a)(hc:codeOf tab a n=some (nn,ss))(hb:sL tab a (.ref η.reg η.iZ::vs)=some as)
  (hw:WS k ss w (o6 as N) (η.add (.inst c [])) (nc λv iY=>v=.none/\Q (.ref η.reg η.iZ) iY)):jb (k+n+w+1) (.st (.ref c)) vs η Q:=
 UK hc hb @λfi ρ hf hm hs Cq e J G X s A g us R E B r rs rm q=>vT (v:=g) r λJ=>(G.fn hf).elim λo z=>z.elim λfd z=>z.elim λdv D=>by
  have L:=rm.fn (k:=k) (aL (ah (aG ..) (aG ..)))
  have I:=G.i h2
  refine wpAny_call ?_
  have kf:=B.kf
  refine (ah9 (c:=c) B).casesOn λ{Y} E0 B0 r0=>?_
  obtain ⟨hh,gg,d,t,os⟩:=s
  refine make_core (makes_of kf I.ms) (looks_findIn kf I.fi) (λself=>bind_fn kf self I.ty) (.inl rfl) (UD (N:=N) (wf:=w) (k:=k) G D hm hs Cq (e▸hw) B0 (.cons r0 (rs.mono E0.le)) rm.h L.1 L.2 λ{v s' Z p iY} e1 B1 r1 hq=>?_)
  exact ⟨vN (v:=v) (hq.1▸r1) rfl,q (E0.trans e1) B1 (r0.mono e1.le) hq.2⟩
theorem jb.blt{f:Value}{v:PV}{iY:AH}(hf:∀a,f≠.ref a)(h:qk tab f vs η=some (v,iY))(q:Q v iY):jb (k+1) (.st f) vs η Q:=
 @λw G X s A g us R E B r rs rm c=>vT (v:=g) r λJ=>ah8 G h B rs rm.h (av (aF (show 20<=16*(k+1)+16 from aT (ah (dc rfl) (bE 16 (bR 1 k))) 16) _) rm.u) λg=>g.casesOn λe B r=>c e B r q
end
end
set_option backward.match.sparseCases false
section
abbrev Rx:=X->Sl->AH->Option (PV×AH)
noncomputable abbrev Rc:=PV->List PV->AH->Option (PV×AH)
abbrev Rs:=jn->Sl->AH->Option (Fl×Sl×AH)
noncomputable def rL(f:Rx):Xs->Sl->AH->Option (List PV×AH)
|.nil,_,η=>some ([],η)
|.cons x r,e,η=>(f x e η).bind λp=>(rL f r e p.2).map λq=>(p.1::q.1,q.2)
def rP(f:Rx):Ps->Sl->AH->List (Str×PV)->Option (List (Str×PV)×AH)
|.nil,_,η,acc=>some (acc,η)
|.cons a b r,e,η,acc=>(f a e η).bind λp=>(gS p.1).bind λx=>(f b e p.2).bind λq=>rP f r e q.2 (jz acc x q.1)
def rT(f:Rx):Xs->Sl->AH->Option (Bool×AH)
|.nil,_,η=>some (true,η)
|.cons x r,e,η=>(f x e η).bind λp=>(mP p.1 p.2).bind λb=>cond b (rT f r e p.2) (some (false,p.2))
def Fo(f:Rx)(ifs:Xs)(em:Sl->AH->Option AH)(tg:Tg)(S:Src):Nat->Nat->Sl->AH->Option AH
|0,_,_,_=>none
|n+1,i,e,η=>(S.at i η).bind λo=>match o with
 |none=>some η
 |some v=>(tg.bind v e).bind λe'=>(rT f ifs e' η).bind λp=>cond p.1 ((em e' p.2).bind λη=>Fo f ifs em tg S n (i+1) e' η) (Fo f ifs em tg S n (i+1) e' p.2)
def rM(cl:Rc)(m:MS)(nm:Str)(vs:List PV)(η:AH):Option (PV×AH):=match m with
|.fn f o=>match o with
 |some o=>cl (.st (.ref f)) (o::vs) η
 |none=>cl (.st (.ref f)) vs η
|m=>tP tab m nm vs η
def UL(f:Rx)(cl:Rc)(x:X)(e:Sl)(η:AH):Option (PV×AH):=match x with
|.k v=>some (v,η)
|.v i=>(look e i).map (·,η)
|.bin op a b=>(f a e η).bind λp=>(f b e p.2).bind λq=>qK op p.1 q.1 q.2
|.no a=>(f a e η).bind λp=>(mP p.1 p.2).map λb=>(.bool (!b),p.2)
|.vX c a b=>(f a e η).bind λp=>(mP p.1 p.2).bind λt=>cond (t == c) (f b e p.2) (some p)
|.sF t a b=>(f t e η).bind λp=>(mP p.1 p.2).bind λt=>cond t (f a e p.2) (f b e p.2)
|.jm=>some (.ref η.reg η.iZ,η.add .jm)
|.dict ps=>(rP f ps e η []).map λp=>(.ref p.2.reg p.2.iZ,p.2.add (.sd p.1 0))
|.list es=>(rL f es e η).bind λp=>cond (kB p.1.length) (some (tF p.2 p.1)) none
|.tup es=>(rL f es e η).bind λp=>cond (kB p.1.length) (some (.tup p.1,p.2)) none
|.uN elt tg it ifs fr ls=>(f it e η).bind λp=>(tG p.1 p.2).bind λS=>cond (allB e fr) ((Fo f ifs (λe' iY=>(f elt e' iY).bind λq=>wL p.2.reg p.2.iZ q.1 q.2) tg S (S.len p.2+1) 0 (clear e ls) (p.2.add (.list []))).map λiY=>(.ref p.2.reg p.2.iZ,iY)) none
|.cmp op a b=>(f a e η).bind λp=>(f b e p.2).bind λq=>(mQ op p.1 q.1 q.2).map λc=>(.bool c,q.2)
|.lP o nm as=>(f o e η).bind λp=>(pg tab p.1 nm p.2).bind λm=>(rL f as e p.2).bind λq=>rM cl m nm q.1 q.2
|.call g as=>(rL f as e η).bind λp=>cl g p.1 p.2
|.attr o a=>(f o e η).bind λp=>(jV tab p.1 a p.2).map (·,p.2)
|.item o i=>(f o e η).bind λp=>(f i e p.2).bind λq=>(jD tab p.1 q.1 q.2).map (·,q.2)
|_=>none
def rX(cl:Rc):Nat->Rx
|0=>λJ J J=>none
|n+1=>UL (rX cl n) cl
def Kh(f:Rx)(t:Tt)(v:PV)(e:Sl)(η:AH):Option (Sl×AH):=match t with
|.loc i=>some (put e i (some v),η)
|.mS o a=>(f o e η).bind λp=>(sf tab p.1 a v p.2).map (e,·)
|.nG o i=>(f o e η).bind λp=>(f i e p.2).bind λq=>(mV p.1 q.1 v q.2).map (e,·)
def Km(f:Rx):List Tt->List PV->Sl->AH->Option (Sl×AH)
|[],[],e,η=>some (e,η)
|t::ts,v::vs,e,η=>(Kh f t v e η).bind λp=>Km f ts vs p.1 p.2
|_,_,_,_=>none
def Ko(B:Sl->AH->Option (Fl×Sl×AH))(tg:Tg)(S:Src):Nat->Nat->Sl->AH->Option (Fl×Sl×AH)
|0,_,_,_=>none
|n+1,i,e,η=>(S.at i η).bind λo=>match o with
 |none=>some (.next,e,η)
 |some v=>(tg.bind v e).bind λe'=>(B e' η).bind λp=>match p.1 with
  |.ret _=>some p
  |_=>Ko B tg S n (i+1) p.2.1 p.2.2
def Kq(f:Rx)(t:X)(B:Sl->AH->Option (Fl×Sl×AH)):Nat->Sl->AH->Option (Fl×Sl×AH)
|0,_,_=>none
|w+1,e,η=>(f t e η).bind λp=>(mP p.1 p.2).bind λc=>cond c ((B e p.2).bind λq=>match q.1 with
  |.ret _=>some q
  |_=>Kq f t B w q.2.1 q.2.2) (some (.next,e,p.2))
def Fp(f:Rx)(b b0:Rs)(w:Nat)(x:St)(e:Sl)(η:AH):Option (Fl×Sl×AH):=match x with
|.expr x=>(f x e η).bind λp=>cond (lW p.1) (some (.next,e,p.2)) none
|.asg t x=>(f x e η).bind λp=>(Kh f t p.1 e p.2).map (.next,·)
|.uO ts x=>(f x e η).bind λp=>(gT p.1).bind λl=>cond (aj l.length ts.length) ((Km f ts l e p.2).map (.next,·)) none
|.aug o a x=>(f o e η).bind λp=>(jV tab p.1 a p.2).bind λu=>(gI u).bind λi=>(f x e p.2).bind λq=>(gI q.1).bind λj=>(sf tab p.1 a (.int (i+j)) q.2).map (.next,e,·)
|.ite t a c=>(f t e η).bind λp=>(mP p.1 p.2).bind λt=>cond t (b a e p.2) (b c e p.2)
|.for rv tg it bd=>(f it e η).bind λp=>(ro rv p.1 p.2).bind λS=>Ko (b bd) tg S (S.len p.2+1) 0 e p.2
|.ret x=>(f x e η).map λp=>(.ret p.1,e,p.2)
|.qO t bd=>Kq f t (b0 bd) w e η
|_=>none
def rS(f:Rx):Nat->Nat->Rs
|0,_=>λJ J J=>none
|n+1,w=>λb e η=>match b with
 |.nil=>some (.next,e,η)
 |.cons x r=>(Fp f (rS f n w) (rS f n 0) w x e η).bind λp=>match p.1 with
  |.next=>rS f n w r p.2.1 p.2.2
  |_=>some p
noncomputable def Kr:Fl->Option PV
|.ret v=>some v
|.next=>some .none
|.cont=>none
set_option genCtorIdx false in
structure xr where
 m:Nat
 nn:Nat
 ss:jn
def rC(T:List (Addr×xr)):Nat->Nat->Rc
|0,_=>λJ J J=>none
|n+1,k=>λf vs η=>(gV f).bind λy=>match y with
 |.ref a=>match jv tab.pG a with
  |some _=>(jv T a).bind λc=>cond (bA (c.m+8+1) k && !MK.any (aj · a)) ((sL tab a vs).bind λas=>(rS (rX (rC T n (k - (c.m+8+1))) 15) 25 8 c.ss (o6 as (c.nn+3)) η).bind λp=>(Kr p.1).map (·,p.2.2)) none
  |none=>(jv tab.oA a).bind λi=>(jv T i).bind λc=>cond (bA (c.m+8+1) k) ((sL tab i (.ref η.reg η.iZ::vs)).bind λas=>(rS (rX (rC T n (k - (c.m+8+1))) 15) 25 8 c.ss (o6 as (c.nn+3)) (η.add (.inst a []))).bind λp=>(Kr p.1).bind λv=>cond (lW v) (some (.ref η.reg η.iZ,p.2.2)) none) none
 |y=>cond (bA 1 k) (qk tab y vs η) none
def SX(k:Nat)(f:Rx):Prop:=∀{x e η v iY},f x e η=some (v,iY)->∀{Q},Q v iY->W k x e η Q
def SC(k:Nat)(c:Rc):Prop:=∀{f vs η v iY},c f vs η=some (v,iY)->∀{Q},Q v iY->jb k f vs η Q
def SS(k w:Nat)(b:Rs):Prop:=∀{x e η fl e' iY},b x e η=some (fl,e',iY)->∀{Q},Q fl e' iY->WS k x w e η Q
section
variable{k w:Nat}{f:Rx}{cl:Rc}{b b0:Rs}{e e':Sl}{iY:AH}{v:PV}
theorem nv{α β:Type}{a c:α}{b d:β}(G:α->β->Prop)(h:(a,b)=(c,d))(q:G c d):G a b:=(cL h).1.symm▸(cL h).2.symm▸q
theorem Cr(H:SX k f):∀{xs:Xs} {η iY:AH} {vs:List PV} {Q:List PV->AH->Prop},rL f xs e η=some (vs,iY)->Q vs iY->WL k xs e η Q
|.nil,_,_,_,Q,h,q=>nv Q (ai h) q
|.cons x r,_,_,_,Q,h,q=>jg h λp h1 h=>jq h λq' h2 h3=>H h1 (Cr H h2 (nv Q h3 q))
theorem UM(H:SX k f):∀{xs:Ps} {η:AH} {acc l:List (Str×PV)} {Q:List (Str×PV)->AH->Prop},rP f xs e η acc=some (l,iY)->Q l iY->WP k xs e η acc Q
|.nil,_,_,_,Q,h,q=>nv Q (ai h) q
|.cons x y r,_,_,_,_,h,q=>jg h λp h1 h=>jg h λs hs h=>jg h λp2 h2 h=>H h1 ⟨s,vJ hs,H h2 (UM H h q)⟩
theorem UN(H:SX k f):∀{xs:Xs} {η:AH} {b:Bool} {Q:Bool->AH->Prop},rT f xs e η=some (b,iY)->Q b iY->TL k xs e η Q
|.nil,_,_,Q,h,q=>nv Q (ai h) q
|.cons x r,_,_,Q,h,q=>jg h λp h1 h=>jg h λb hb h=>mE h (λc h=>H h1 ⟨b,hb,λJ=>UN H h q,λz=>xf (z.symm.trans c)⟩) λc h=>H h1 ⟨b,hb,λz=>xf (c.symm.trans z),λJ=>nv Q (ai h) q⟩
theorem Ku(H:SX k f){ifs:Xs}{em:Sl->AH->Option AH}{EM:Sl->AH->(AH->Prop)->Prop}(he:∀{e η iY},em e η=some iY->∀{Q},Q iY->EM e η Q){tg:Tg}{S:Src}:∀{n i:Nat} {e:Sl} {η:AH} {Q:AH->Prop},Fo f ifs em tg S n i e η=some iY->Q iY->o5 (TL k ifs) EM tg S n i e η Q
|0,_,_,_,_,h,_=>xn h
|n+1,i,e,η,Q,h,q=>jg h λo ho h=>⟨o,ho,by
  cases o with
 |none=>exact ai h▸q
 |some v=>exact jg h λe' hb h=>jg h λp hi h=>⟨e',hb,UN H hi (mE h (λc h=>⟨λJ=>jg h λt9 h1 h=>he h1 (Ku H he h q),λz=>xf (z.symm.trans c)⟩) λc h=>⟨λz=>xf (c.symm.trans z),λJ=>Ku H he h q⟩)⟩⟩
theorem aia(C:SC k cl){m:MS}{vs:List PV}{Q:PV->AH->Prop}(h:rM cl m nm vs η=some (v,iY))(q:Q v iY):WM k m nm vs η Q:=by
 cases m with
|fn g o=>cases o<;>exact C h q
|_=>exact ⟨v,iY,h,q⟩
theorem aib(H:SX k f)(C:SC k cl):SX k (UL f cl):=by
 intro x e η v iY h Q q
 cases x with
|k v=>exact nv Q (ai h) q
|v i=>exact jq h λu h1 h=>⟨u,h1,nv Q h q⟩
|bin op a b=>exact jg h λp h1 h=>jg h λp2 h2 h=>H h1 (H h2 ⟨v,iY,h,q⟩)
|no a=>exact jg h λp h1 h=>jq h λb h2 h=>H h1 ⟨b,h2,nv Q h q⟩
|vX c a b=>exact jg h λp h1 h=>jg h λt ht h=>H h1 ⟨t,ht,mE h (λz h=>⟨λJ=>H h q,λy=>by rw [y] at z;cases c<;>exact xf z⟩) λz h=>⟨λy=>by rw [y,beq_self_eq_true] at z;exact xf z.symm,λJ=>nv Q (ai h) q⟩⟩
|sF t a b=>exact jg h λp h1 h=>jg h λt ht h=>H h1 ⟨t,ht,mE h (λz h=>⟨λJ=>H h q,λy=>xf (y.symm.trans z)⟩) λz h=>⟨λy=>xf (z.symm.trans y),λJ=>H h q⟩⟩
|jm=>exact nv Q (ai h) q
|dict ps=>exact jq h λp h1 h=>UM H h1 (nv Q h q)
|list es=>exact jg h λp h1 h=>xc h λc h=>Cr H h1 ⟨c,nv Q (ai h) q⟩
|tup es=>exact jg h λp h1 h=>xc h λc h=>Cr H h1 ⟨c,nv Q (ai h) q⟩
|uN elt tg it ifs fr ls=>exact jg h λp h1 h=>jg h λS hS h=>xc h λc h=>jq h λt9 h2 h=>H h1 ⟨S,hS,c,Ku H (λh Q q=>jg h λp h1 h=>H h1 ⟨_,h,q⟩) h2 (nv Q h q)⟩
|cmp op a b=>exact jg h λp h1 h=>jg h λp2 h2 h=>jq h λc h3 h=>H h1 (H h2 ⟨c,h3,nv Q h q⟩)
|lP o nm as=>exact jg h λp h1 h=>jg h λm h2 h=>jg h λp2 h3 h=>H h1 ⟨m,h2,Cr H h3 (aia C h q)⟩
|call g as=>exact jg h λp h1 h=>Cr H h1 (C h q)
|attr o a=>exact jg h λp h1 h=>jq h λu h2 h=>H h1 ⟨u,h2,nv Q h q⟩
|item o i=>exact jg h λp h1 h=>jg h λp2 h2 h=>jq h λu h3 h=>H h1 (H h2 ⟨u,h3,nv Q h q⟩)
|_=>exact xn h
theorem Kv(C:SC k cl)(n:Nat):SX k (rX cl n):=by
 induction n with
|zero=>exact λh=>xn h
|succ n ih=>exact aib ih C
theorem UO(H:SX k f){t:Tt}{Q:Sl->AH->Prop}(h:Kh f t v e η=some (e',iY))(q:Q e' iY):Wt k t v e η Q:=by
 cases t with
|loc i=>exact nv Q (ai h) q
|mS o a=>exact jg h λp h1 h=>jq h λt9 h2 h=>H h1 ⟨t9,h2,nv Q h q⟩
|nG o i=>exact jg h λp h1 h=>jg h λp2 h2 h=>jq h λt9 h3 h=>H h1 (H h2 ⟨t9,h3,nv Q h q⟩)
theorem aic(H:SX k f){ts:List Tt}:∀{vs:List PV} {e:Sl} {η:AH} {Q:Sl->AH->Prop},Km f ts vs e η=some (e',iY)->Q e' iY->t6 k ts vs e η Q:=by
 induction ts with
|nil=>exact λ{vs _ _ Q} h q=>match vs,h with
 |[],h=>nv Q (ai h) q
 |_::_,h=>xn h
|cons t ts ih=>exact λ{vs _ _ _} h q=>match vs,h with
 |[],h=>xn h
 |v::vs,h=>jg h λp h1 h=>UO H h1 (ih h q)
theorem sM{α β γ:Type}{a d:α}{b e:β}{c f:γ}(G:α->β->γ->Prop)(h:(a,b,c)=(d,e,f))(q:G d e f):G a b c:=nv (λa p=>G a p.1 p.2) h q
theorem aid{B:Sl->AH->Option (Fl×Sl×AH)}{WB:Sl->AH->(Fl->Sl->AH->Prop)->Prop}(HB:∀{e η fl e' iY},B e η=some (fl,e',iY)->∀{Q},Q fl e' iY->WB e η Q){tg:Tg}{S:Src}{fl:Fl}:∀{i:Nat} {e:Sl} {η:AH} {Q:Fl->Sl->AH->Prop},Ko B tg S n i e η=some (fl,e',iY)->Q fl e' iY->oO WB tg S n i e η Q:=by
 induction n with
|zero=>exact λh J=>xn h
|succ n ih=>
  refine λ{i e η Q} h q=>jg h λo ho h=>⟨o,ho,?_⟩
  clear ho
  cases o with
 |none=>exact sM Q (ai h) q
 |some v=>
   refine jg h λe2 hb h=>jg h λp hp h=>⟨e2,hb,HB (show B e2 η=some (p.1,p.2.1,p.2.2) from hp) ?_⟩
   clear hp
   obtain ⟨f,e3,Uu⟩:=p
   cases f with
  |ret v=>exact sM Q (ai h) q
  |_=>exact ih h q
theorem aie(H:SX k f){B:Sl->AH->Option (Fl×Sl×AH)}{WB:Sl->AH->(Fl->Sl->AH->Prop)->Prop}(HB:∀{e η fl e' iY},B e η=some (fl,e',iY)->∀{Q},Q fl e' iY->WB e η Q){t:X}{fl:Fl}:∀{e:Sl} {η:AH} {Q:Fl->Sl->AH->Prop},Kq f t B n e η=some (fl,e',iY)->Q fl e' iY->qv (λe η Q=>W k t e η Q) WB n e η Q:=by
 induction n with
|zero=>exact λh J=>xn h
|succ n ih=>
  refine λ{e η Q} h q=>jg h λp h1 h=>jg h λc hc h=>H h1 ⟨c,hc,mE h (λz h=>⟨λJ=>?_,λy=>xf (y.symm.trans z)⟩) λz h=>⟨λy=>xf (z.symm.trans y),λJ=>sM Q (ai h) q⟩⟩
  refine jg h λp2 hp h=>HB (show B e p.2=some (p2.1,p2.2.1,p2.2.2) from hp) ?_
  clear hp
  obtain ⟨f,e3,Uu⟩:=p2
  cases f with
 |ret v=>exact sM Q (ai h) q
 |_=>exact ih h q
theorem UQ(H:SX k f)(HB:SS k w b)(HB0:SS k 0 b0){x:St}{fl:Fl}(h:Fp f b b0 w x e η=some (fl,e',iY)){Q:Fl->Sl->AH->Prop}(q:Q fl e' iY):W1 k x w e η Q:=by
 cases x with
|expr x=>exact jg h λp h1 h=>xc h λc h=>H h1 ⟨Eu c,sM Q (ai h) q⟩
|asg t x=>exact jg h λp h1 h=>jq h λp2 h2 h=>H h1 (UO H h2 (sM Q h q))
|uO ts x=>exact jg h λp h1 h=>jg h λl hl h=>xc h λc h=>jq h λp2 h2 h=>H h1 ⟨l,BL hl,aP c,aic H h2 (sM Q h q)⟩
|aug o a x=>exact jg h λp h1 h=>jg h λu hu h=>jg h λi hi h=>jg h λp2 h2 h=>jg h λj hj h=>jq h λt9 h3 h=>H h1 ⟨i,hu.trans (congrArg some (vH hi)),H h2 ⟨j,vH hj,t9,h3,sM Q h q⟩⟩
|ite t a c=>exact jg h λp h1 h=>jg h λt ht h=>H h1 ⟨t,ht,mE h (λz h=>⟨λJ=>HB h q,λy=>xf (y.symm.trans z)⟩) λz h=>⟨λy=>xf (z.symm.trans y),λJ=>HB h q⟩⟩
|«for» rv tg it bd=>exact jg h λp h1 h=>jg h λS hS h=>H h1 ⟨S,hS,aid HB h q⟩
|ret x=>exact jq h λp h1 h=>H h1 (sM Q h q)
|qO t bd=>exact aie H HB0 h q
|_=>exact xn h
theorem Fq(H:SX k f)(n:Nat):∀{w},SS k w (rS f n w):=by
 induction n with
|zero=>exact λh=>xn h
|succ n ih=>
  intro w x e η fl e' iY h Q q
  cases x with
 |nil=>exact sM Q (ai h) q
 |cons x r=>
   refine jg h λp h1 h=>UQ H ih ih (show Fp f (rS f n w) (rS f n 0) w x e η=some (p.1,p.2.1,p.2.2) from h1) ?_
   clear h1
   obtain ⟨g,e2,t9⟩:=p
   cases g with
  |next=>exact ih h q
  |cont=>exact sM Q (ai h) q
  |ret v=>exact sM Q (ai h) q
theorem UR{fl:Fl}(h:Kr fl=some v){Q:PV->AH->Prop}(q:Q v η):nc Q fl e η:=by
 cases fl with
|cont=>exact xn h
|next=>exact (show Q .none η from (ai h:PV.none=v)▸q)
|ret u=>exact (show Q u η from (ai h:u=v)▸q)
theorem UT{T:List (Addr×xr)}(HT:∀{a c},jv T a=some c->codeOf tab a c.m=some (c.nn,c.ss))(n:Nat):∀{k},SC k (rC T n k):=by
 induction n with
|zero=>exact λh=>xn h
|succ n ih=>
  intro k f vs η v iY h Q q
  refine jg h λy hy h=>?_
  rw [J' hy]
  clear hy
  have K:∀{m:Nat},bA (m+8+1) k=true->k - (m+8+1)+m+8+1=k:=λc=>(bH _ _ 8▸cS (b5 c) :)
  cases y with
 |ref a=>
   refine xo (jv tab.pG a) (λe=>?_) λfi e=>?_
   all_goals
    dsimp only at h
    rw [e] at h
   ·exact jg h λi hi h=>jg h λc hc h=>xc h λc1 h=>jg h λas hb h=>jg h λp hp h=>jg h λu hu h=>xc h λc2 h=>K c1▸jb.cls 8 e hi (HT hc) hb (Fq (Kv ih _) _ (show rS _ _ _ _ _ _=some (p.1,p.2.1,p.2.2) from hp) (UR hu ⟨Eu c2,nv Q (ai h) q⟩))
   ·exact jg h λc hc h=>xc h λc1 h=>xb c1 λc1 c2=>jg h λas hb h=>jg h λp hp h=>jq h λu hu h=>K c1▸jb.fn 8 (HT hc) ((cM _).mp c2) hb (Fq (Kv ih _) _ (show rS _ _ _ _ _ _=some (p.1,p.2.1,p.2.2) from hp) (UR hu (nv Q h q)))
 |_=>exact xc h λc h=>jb.le (k:=1) (jb.blt (k:=0) (nofun) h q) (b5 c)
def rN(f:Rx):Nat->jn->Sl->AH->Option (Sl×AH)
|0,_,e,η=>some (e,η)
|n+1,b,e,η=>match b with
 |.nil=>none
 |.cons x r=>(Fp f (rS f 25 0) (rS f 25 0) 0 x e η).bind λp=>match p.1 with
  |.next=>rN f n r p.2.1 p.2.2
  |_=>none
noncomputable def kj:Nat->jn->jn
|n+1,.cons _ t=>kj n t
|_,s=>s
theorem Kw(H:SX k f){Q:Fl->Sl->AH->Prop}:∀{b:jn} {e:Sl} {η:AH},rN f n b e η=some (e',iY)->WS k (kj n b) 0 e' iY Q->WS k b 0 e η Q:=by
 induction n with
|zero=>exact λ{b e η} h q=>nv (λe η=>WS k b 0 e η Q) (ai h) (by cases b<;>exact q)
|succ n ih=>exact λ{b e η} h q=>match b,h,q with
 |.nil,h,_=>xn h
 |.cons x r,h,q=>jg h λp h1 h=>UQ H (Fq H 25) (Fq H 25) (show _=some (p.1,p.2.1,p.2.2) from h1) (by
   cases hf:p.1 with
  |next=>rw [hf] at h;exact ih h q
  |cont=>rw [hf] at h;exact xn h
  |ret v=>rw [hf] at h;exact xn h)
end
end
theorem uP{α:Type}:∀{l:List (Addr×α)} {x:Addr} {k:α},jv l x=some k->(x,k)∈l
|(y,v)::r,x,k,h=>by
  have h':cond (aj y x) (some v) (jv r x)=some k:=h
  cases q:aj y x with
 |true=>
   rw [q] at h'
   cases h'
   have:=aP q
   subst this
   exact bL ..
 |false=>
   rw [q] at h'
   exact bu _ (uP h')
def UU(P:Params)(c:Addr):Bool:=hasDictIn (Kf P) c && (findIn (Kf P) (.ref c) "__setattr__" == some (some (.builtin "object.__setattr__"))) && plainOver (Kf P) c
def UW(P:Params)(c:Addr)(a:Str):Bool:=plainGet (Kf P) c a && (findIn (Kf P) (.ref c) a == some none)
theorem aif(P:Params):(tab.fields.all λp=>UU P p.1)=true:=by kernel_rfl
def kU(P:Params)(a:Nat):Obj:=((objs P)[a]?).getD ⟨.none,none,.plain,#[]⟩
def fdO(o:Obj):FuncData:=match o.data with
|.func f=>f
|_=>fD (.Pass default) "" .none .none .none .none none .none .none 0 0
def lC(P:Params)(a:Nat):FuncData:=fdO (kU P a)
noncomputable def refOf:Value->Nat
|.ref a=>a
|_=>0
noncomputable def tokOf:Value->Nat
|.str _ t=>t
|_=>0
noncomputable def Ky(o:Obj):Array Value:=match o.data with
|.fields vs=>vs
|_=>#[]
noncomputable def Aa(o:Obj):List Value:=match o.data with
|.seq xs _=>xs.toList
|_=>[]
noncomputable def aih(o:Obj):Nat:=match o.data with
|.seq _ n=>n
|_=>0
def Fs(P:Params)(v:Value):List Value:=match v with
|.ref d=>Aa (kU P d)
|_=>[]
def Ct(P:Params)(a:Nat):List Value:=Fs P (lC P a).defaults
theorem aii(P:Params)(v:Value)(e:v=.ref (refOf v)):Fs P v=Aa (kU P (refOf v)):=by
 cases v<;>first|(cases e;done)|skip
 exact ez _
theorem aij(P:Params)(v:Value)(e:v=.none):Fs P v=[]:=by
 subst e;exact ez _
def Ft(v:Value)(p:PV):Bool:=match p with
|.none=>match v with
 |.none=>true
 |_=>false
|.bool b=>match v with
 |.bool a=>a == b
 |_=>false
|.int b=>match v with
 |.int a _=>decide (a=b)
 |_=>false
|.str b=>match v with
 |.str a _=>sq a b
 |_=>false
|_=>false
def Cu:List Value->List PV->Bool
|[],[]=>true
|a::r,b::q=>Ft a b && Cu r q
|_,_=>false
theorem UX{X:Em}{v:Value}{p:PV}(h:Ft v p=true):VR X v p:=by
 cases p with
|none=>cases v with
 |none=>exact .none
 |_=>exact xf h
|bool b=>cases v with
 |bool a=>rw [beq_iff_eq.mp (show (a == b)=true from h)];exact .bool _
 |_=>exact xf h
|int b=>cases v with
 |int a t=>rw [of_decide_eq_true (show decide (a=b)=true from h)];exact .int _ _
 |_=>exact xf h
|str b=>cases v with
 |str a t=>rw [jS.mp (show sq a b=true from h)];exact .str _ _
 |_=>exact xf h
|_=>exact xf h
theorem Kz{X:Em}:∀{v:List Value} {p:List PV},Cu v p=true->jr X v p
|[],[],_=>.nil
|a::r,b::q,h=>by
  have h':(Ft a b && Cu r q)=true:=h
  rw [aN] at h'
  exact .cons (UX h'.1) (Kz h'.2)
|[],_::_,h=>by cases h
|_::_,[],h=>by cases h
def UY(ps:List Str)(names:List (Str×NameKind)):Bool:=ps.all λx=>match ja names x with
|some .local=>true
|some .cell=>true
|_=>false
theorem aik{ps:List Str}(h:UY ps names=true):∀x∈ps,names.lookup x=some .local\/names.lookup x=some .cell:=λx hx=>by
 have:=aI.mp h x hx
 rw [<-wO]
 split at this
 ·rename_i e;exact .inl e
 ·rename_i e;exact .inr e
 ·cases this
def Ab:List Str->Bool
|[]=>true
|x::r=>!(r.any (sq x)) && Ab r
theorem KD:∀{l:List Str},Ab l=true->l.Nodup
|[],_=>dI
|x::r,h=>by
  have h':(!(r.any (sq x)) && Ab r)=true:=h
  rw [aN,cM] at h'
  rw [bw]
  refine ⟨λhx=>?_,KD h'.2⟩
  have:=fZ.mp h'.1 x hx
  exact this (jS.mpr rfl)
structure jO(P:Params)(a:Addr)(fi:rj):Prop where
 ob:(objs P)[a]?=some (qj (lC P a))
 pt:((lC P a).body,(lC P a).scope,(lC P a).params.args.map (·.arg),(lC P a).params.posonlyargs,(lC P a).params.kwonlyargs,(lC P a).params.vararg,(lC P a).params.kwarg,Ab ((lC P a).params.args.map (·.arg)),(lC P a).closure,(lC P a).globals,(lC P a).builtins,(lC P a).scope.isCoroutine,(lC P a).scope.isGenerator,(lC P a).scope.kind,QC (lC P a).scope,UY (rq fi.st) (lC P a).scope.names,bA (Ct P a).length ((lC P a).params.args.map (·.arg)).length,Cu (Ct P a) fi.dflt) =
  (.stmts (bodyOf fi.st),tQ fi.st,rq fi.st,[],[],none,none,true,[],mainGlobals,builtinsNs,false,false,.function,true,true,true,true)
 cd:((lC P a).code,(objs P)[refOf (lC P a).code]?,(kU P (refOf (lC P a).code)).data,(Ky (kU P (refOf (lC P a).code)))[1]?)=(.ref (refOf (lC P a).code),some (kU P (refOf (lC P a).code)),.fields (Ky (kU P (refOf (lC P a).code))),some (.str (lC P a).qualname (tokOf ((Ky (kU P (refOf (lC P a).code))).getD 1 .none))))
 df:((lC P a).defaults=.none)\/((lC P a).defaults,(objs P)[refOf (lC P a).defaults]?,(kU P (refOf (lC P a).defaults)).data)=(.ref (refOf (lC P a).defaults),some (kU P (refOf (lC P a).defaults)),.seq (Aa (kU P (refOf (lC P a).defaults))).toArray (aih (kU P (refOf (lC P a).defaults))))
theorem ol{α β:Type}{a c:α}{b d:β}{G:Prop}(h:(a,b)=(c,d))(f:a=c->b=d->G):G:=f (cL h).1 (cL h).2
theorem jO.at{w:World}{a:Addr}{fi:rj}(K:jO w.params a fi):∃o fd dv,FnAt w a fi o fd dv:=by
 have UZ:Ct w.params a=Fs w.params (lC w.params a).defaults:=by unfold Ct;exact ez _
 refine ol K.pt λbo pt=>ol pt λsc pt=>ol pt λpr pt=>ol pt λpo pt=>ol pt λko pt=>ol pt λva pt=>ol pt λkw pt=>ol pt λnd pt=>ol pt λcl pt=>ol pt λgl pt=>ol pt λbi pt=>ol pt λco pt=>ol pt λge pt=>ol pt λkd pt=>ol pt λok pt=>ol pt λbn pt=>ol pt λdl dr=>ol K.cd λc1 cd=>ol cd λc2 cd=>ol cd λc3 c4=>?_
 exact ⟨qj (lC w.params a),lC w.params a,Ct w.params a,K.ob,ez _,bo,sc,pr,⟨po,ko,va,kw,KD nd⟩,cl,gl,bi,co,ge,kd,ok,aik bn,⟨_,_,_,_,c1,c2,c3,c4⟩,K.df.elim (λe=>.inl ⟨e,UZ.trans (aij _ _ e)⟩) λz=>ol z λe1 z=>ol z λe2 e3=>.inr ⟨_,_,_,e1,e2,by rw [UZ,aii _ _ e1];exact e3⟩,b5 dl,λX η h J=>Kz dr⟩
theorem ail(P:Params):jO P 35 ⟨(mA 4 0),[]⟩:=⟨by kernel_rfl,by kernel_rfl,by kernel_rfl,.inl (by kernel_rfl)⟩
theorem aim(P:Params):jO P 216 ⟨(mA 12 0),[.none,(.bool false),.none,.none]⟩:=⟨by kernel_rfl,by kernel_rfl,by kernel_rfl,.inr (by kernel_rfl)⟩
theorem ain(P:Params):jO P 223 ⟨(mA 12 1),[]⟩:=⟨by kernel_rfl,by kernel_rfl,by kernel_rfl,.inl (by kernel_rfl)⟩
theorem aio(P:Params):jO P 243 ⟨(mA 13 0),[.none,.none,(.str (bh #[112,117,98,108,105,99]))]⟩:=⟨by kernel_rfl,by kernel_rfl,by kernel_rfl,.inr (by kernel_rfl)⟩
theorem aip(P:Params):jO P 251 ⟨(mA 13 1),[.none]⟩:=⟨by kernel_rfl,by kernel_rfl,by kernel_rfl,.inr (by kernel_rfl)⟩
theorem aiq(P:Params):jO P 265 ⟨(dA 14),[]⟩:=⟨by kernel_rfl,by kernel_rfl,by kernel_rfl,.inl (by kernel_rfl)⟩
theorem air(P:Params):jO P 272 ⟨(dA 15),[]⟩:=⟨by kernel_rfl,by kernel_rfl,by kernel_rfl,.inl (by kernel_rfl)⟩
theorem ais(P:Params):jO P 299 ⟨(dA 20),[]⟩:=⟨by kernel_rfl,by kernel_rfl,by kernel_rfl,.inl (by kernel_rfl)⟩
theorem ait(P:Params):jO P 304 ⟨(dA 21),[]⟩:=⟨by kernel_rfl,by kernel_rfl,by kernel_rfl,.inl (by kernel_rfl)⟩
theorem aiu(P:Params):jO P 309 ⟨(dA 22),[]⟩:=⟨by kernel_rfl,by kernel_rfl,by kernel_rfl,.inl (by kernel_rfl)⟩
theorem aiv(P:Params):jO P 314 ⟨(dA 23),[]⟩:=⟨by kernel_rfl,by kernel_rfl,by kernel_rfl,.inl (by kernel_rfl)⟩
theorem aiw(P:Params):jO P 321 ⟨(dA 24),[]⟩:=⟨by kernel_rfl,by kernel_rfl,by kernel_rfl,.inl (by kernel_rfl)⟩
theorem aix(P:Params):jO P 342 ⟨(dA 28),[]⟩:=⟨by kernel_rfl,by kernel_rfl,by kernel_rfl,.inl (by kernel_rfl)⟩
theorem aiy(P:Params):jO P 349 ⟨(dA 29),[]⟩:=⟨by kernel_rfl,by kernel_rfl,by kernel_rfl,.inl (by kernel_rfl)⟩
theorem aiz(P:Params):jO P 356 ⟨(dA 30),[]⟩:=⟨by kernel_rfl,by kernel_rfl,by kernel_rfl,.inl (by kernel_rfl)⟩
theorem aiA(P:Params):jO P 363 ⟨(dA 31),[]⟩:=⟨by kernel_rfl,by kernel_rfl,by kernel_rfl,.inl (by kernel_rfl)⟩
theorem aiB(P:Params):jO P 370 ⟨(dA 32),[]⟩:=⟨by kernel_rfl,by kernel_rfl,by kernel_rfl,.inl (by kernel_rfl)⟩
theorem aiC(P:Params):jO P 377 ⟨(dA 33),[]⟩:=⟨by kernel_rfl,by kernel_rfl,by kernel_rfl,.inl (by kernel_rfl)⟩
theorem aiD(P:Params):jO P 384 ⟨(dA 34),[]⟩:=⟨by kernel_rfl,by kernel_rfl,by kernel_rfl,.inl (by kernel_rfl)⟩
theorem aiE(P:Params):jO P 391 ⟨(dA 35),[]⟩:=⟨by kernel_rfl,by kernel_rfl,by kernel_rfl,.inl (by kernel_rfl)⟩
theorem aiF(P:Params):jO P 398 ⟨(dA 36),[]⟩:=⟨by kernel_rfl,by kernel_rfl,by kernel_rfl,.inl (by kernel_rfl)⟩
theorem aiG(P:Params):jO P 405 ⟨(dA 37),[]⟩:=⟨by kernel_rfl,by kernel_rfl,by kernel_rfl,.inl (by kernel_rfl)⟩
theorem aiH(P:Params):jO P 412 ⟨(dA 38),[]⟩:=⟨by kernel_rfl,by kernel_rfl,by kernel_rfl,.inl (by kernel_rfl)⟩
theorem aiI(P:Params):jO P 419 ⟨(dA 39),[]⟩:=⟨by kernel_rfl,by kernel_rfl,by kernel_rfl,.inl (by kernel_rfl)⟩
theorem aiJ(P:Params):jO P 426 ⟨(dA 40),[]⟩:=⟨by kernel_rfl,by kernel_rfl,by kernel_rfl,.inl (by kernel_rfl)⟩
theorem aiK(P:Params):jO P 441 ⟨(mA 42 0),[(.bool false)]⟩:=⟨by kernel_rfl,by kernel_rfl,by kernel_rfl,.inr (by kernel_rfl)⟩
theorem aiL(P:Params):jO P 469 ⟨(mA 43 0),[]⟩:=⟨by kernel_rfl,by kernel_rfl,by kernel_rfl,.inl (by kernel_rfl)⟩
theorem aiM(P:Params):jO P 505 ⟨(mA 45 0),[.none,(.str (bh #[99,97,108,108])),.none,.none]⟩:=⟨by kernel_rfl,by kernel_rfl,by kernel_rfl,.inr (by kernel_rfl)⟩
theorem aiN(P:Params):jO P 526 ⟨(dA 46),[]⟩:=⟨by kernel_rfl,by kernel_rfl,by kernel_rfl,.inl (by kernel_rfl)⟩
theorem aiO(P:Params):jO P 609 ⟨(mA 53 0),[]⟩:=⟨by kernel_rfl,by kernel_rfl,by kernel_rfl,.inl (by kernel_rfl)⟩
theorem aiP(P:Params):jO P 652 ⟨(mA 54 0),[.none]⟩:=⟨by kernel_rfl,by kernel_rfl,by kernel_rfl,.inr (by kernel_rfl)⟩
theorem aiQ(P:Params):jO P 673 ⟨(mA 55 0),[]⟩:=⟨by kernel_rfl,by kernel_rfl,by kernel_rfl,.inl (by kernel_rfl)⟩
theorem aiR(P:Params):jO P 765 ⟨(dA 57),[]⟩:=⟨by kernel_rfl,by kernel_rfl,by kernel_rfl,.inl (by kernel_rfl)⟩
theorem aiS(P:Params):jO P 793 ⟨(mA 63 0),[.none,.none,(.int (20000))]⟩:=⟨by kernel_rfl,by kernel_rfl,by kernel_rfl,.inr (by kernel_rfl)⟩
theorem aiT(P:Params):jO P 814 ⟨(mA 63 3),[]⟩:=⟨by kernel_rfl,by kernel_rfl,by kernel_rfl,.inl (by kernel_rfl)⟩
theorem aiU(P:Params):jO P 835 ⟨(mA 63 6),[]⟩:=⟨by kernel_rfl,by kernel_rfl,by kernel_rfl,.inl (by kernel_rfl)⟩
theorem aiV(P:Params):jO P 840 ⟨(mA 63 7),[]⟩:=⟨by kernel_rfl,by kernel_rfl,by kernel_rfl,.inl (by kernel_rfl)⟩
theorem aiW(P:Params):jO P 847 ⟨(mA 63 8),[]⟩:=⟨by kernel_rfl,by kernel_rfl,by kernel_rfl,.inl (by kernel_rfl)⟩
theorem aiX(P:Params):jO P 855 ⟨(mA 63 9),[.none,.none,.none]⟩:=⟨by kernel_rfl,by kernel_rfl,by kernel_rfl,.inr (by kernel_rfl)⟩
theorem aiY(P:Params):jO P 862 ⟨(mA 63 10),[]⟩:=⟨by kernel_rfl,by kernel_rfl,by kernel_rfl,.inl (by kernel_rfl)⟩
theorem aiZ(P:Params):jO P 869 ⟨(mA 63 11),[]⟩:=⟨by kernel_rfl,by kernel_rfl,by kernel_rfl,.inl (by kernel_rfl)⟩
theorem ai0(P:Params):jO P 876 ⟨(mA 63 12),[]⟩:=⟨by kernel_rfl,by kernel_rfl,by kernel_rfl,.inl (by kernel_rfl)⟩
theorem ai1(P:Params):jO P 890 ⟨(mA 63 14),[]⟩:=⟨by kernel_rfl,by kernel_rfl,by kernel_rfl,.inl (by kernel_rfl)⟩
theorem ai2(P:Params):jO P 1065 ⟨(dA 65),[]⟩:=⟨by kernel_rfl,by kernel_rfl,by kernel_rfl,.inl (by kernel_rfl)⟩
theorem ai3(P:Params):jO P 1072 ⟨(dA 66),[]⟩:=⟨by kernel_rfl,by kernel_rfl,by kernel_rfl,.inl (by kernel_rfl)⟩
theorem ai4(P:Params):jO P 1079 ⟨(dA 67),[]⟩:=⟨by kernel_rfl,by kernel_rfl,by kernel_rfl,.inl (by kernel_rfl)⟩
theorem ai5(P:Params):jO P 1086 ⟨(dA 68),[]⟩:=⟨by kernel_rfl,by kernel_rfl,by kernel_rfl,.inl (by kernel_rfl)⟩
theorem ai6(P:Params):jO P 1093 ⟨(dA 69),[]⟩:=⟨by kernel_rfl,by kernel_rfl,by kernel_rfl,.inl (by kernel_rfl)⟩
theorem ai7(P:Params):jO P 1100 ⟨(dA 70),[]⟩:=⟨by kernel_rfl,by kernel_rfl,by kernel_rfl,.inl (by kernel_rfl)⟩
theorem ai8(P:Params):jO P 1107 ⟨(dA 71),[]⟩:=⟨by kernel_rfl,by kernel_rfl,by kernel_rfl,.inl (by kernel_rfl)⟩
theorem ai9(P:Params):jO P 1114 ⟨(dA 72),[]⟩:=⟨by kernel_rfl,by kernel_rfl,by kernel_rfl,.inl (by kernel_rfl)⟩
theorem aja(P:Params):jO P 1121 ⟨(dA 73),[]⟩:=⟨by kernel_rfl,by kernel_rfl,by kernel_rfl,.inl (by kernel_rfl)⟩
theorem ajb(P:Params):jO P 1126 ⟨(dA 74),[]⟩:=⟨by kernel_rfl,by kernel_rfl,by kernel_rfl,.inl (by kernel_rfl)⟩
theorem ajc(P:Params):jO P 1133 ⟨(dA 75),[]⟩:=⟨by kernel_rfl,by kernel_rfl,by kernel_rfl,.inl (by kernel_rfl)⟩
theorem ajd(P:Params):jO P 1140 ⟨(dA 76),[]⟩:=⟨by kernel_rfl,by kernel_rfl,by kernel_rfl,.inl (by kernel_rfl)⟩
theorem aje(P:Params):jO P 1145 ⟨(dA 77),[]⟩:=⟨by kernel_rfl,by kernel_rfl,by kernel_rfl,.inl (by kernel_rfl)⟩
theorem ajf(P:Params):jO P 1152 ⟨(dA 78),[]⟩:=⟨by kernel_rfl,by kernel_rfl,by kernel_rfl,.inl (by kernel_rfl)⟩
theorem ajg(P:Params):jO P 1157 ⟨(dA 79),[]⟩:=⟨by kernel_rfl,by kernel_rfl,by kernel_rfl,.inl (by kernel_rfl)⟩
theorem ajh(P:Params):jO P 1162 ⟨(dA 80),[]⟩:=⟨by kernel_rfl,by kernel_rfl,by kernel_rfl,.inl (by kernel_rfl)⟩
theorem aji(P:Params):jO P 1167 ⟨(dA 81),[]⟩:=⟨by kernel_rfl,by kernel_rfl,by kernel_rfl,.inl (by kernel_rfl)⟩
theorem ajj(P:Params):jO P 1172 ⟨(dA 82),[]⟩:=⟨by kernel_rfl,by kernel_rfl,by kernel_rfl,.inl (by kernel_rfl)⟩
theorem jU{P:Params}{a:Addr}{f:rj}{T:List (Addr×rj)}(h:jO P a f)(ih:∀{x g},jv T x=some g->jO P x g){x:Addr}{g:rj}(e:jv ((a,f)::T) x=some g):jO P x g:=
 mE (show cond (aj a x) (some f) (jv T x)=some g from e) (λz e=>aP z▸ai e▸h) λJ e=>ih e
theorem ajk{P:Params}{x:Addr}{g:rj}(e:jv ([]:List (Addr×rj)) x=some g):jO P x g:=xn e
theorem ajl(P:Params){x:Addr}{g:rj}(e:jv tab.pG x=some g):jO P x g:=
 jU (ail P) (jU (aim P) (jU (ain P) (jU (aio P) (jU (aip P) (jU (aiq P) (jU (air P) (jU (ais P) (jU (ait P) (jU (aiu P) (jU (aiv P) (jU (aiw P) (jU (aix P) (jU (aiy P) (jU (aiz P) (jU (aiA P) (jU (aiB P) (jU (aiC P) (jU (aiD P) (jU (aiE P) (jU (aiF P) (jU (aiG P) (jU (aiH P) (jU (aiI P) (jU (aiJ P) (jU (aiK P) (jU (aiL P) (jU (aiM P) (jU (aiN P) (jU (aiO P) (jU (aiP P) (jU (aiQ P) (jU (aiR P) (jU (aiS P) (jU (aiT P) (jU (aiU P) (jU (aiV P) (jU (aiW P) (jU (aiX P) (jU (aiY P) (jU (aiZ P) (jU (ai0 P) (jU (ai1 P) (jU (ai2 P) (jU (ai3 P) (jU (ai4 P) (jU (ai5 P) (jU (ai6 P) (jU (ai7 P) (jU (ai8 P) (jU (ai9 P) (jU (aja P) (jU (ajb P) (jU (ajc P) (jU (ajd P) (jU (aje P) (jU (ajf P) (jU (ajg P) (jU (ajh P) (jU (aji P) (jU (ajj P) ajk)))))))))))))))))))))))))))))))))))))))))))))))))))))))))))) e
theorem ajm(P:Params):(tab.fields.all λp=>p.2.all λa=>UW P p.1 a)=true:=by kernel_rfl
def U0(P:Params)(c:Addr)(name:Str)(f:Addr):Bool:=
 (findIn (Kf P) (.ref c) "__getattribute__" == some (some (.builtin "object.__getattribute__"))) && (findIn (Kf P) (.ref c) "__getattr__" == some none) && (findIn (Kf P) (.ref c) name == some (some (.ref f))) && (typeIn (Kf P) (.ref f) == some (.type "function")) &&
 (specialIn (Kf P) (.ref c) "__getattribute__" == some (some (.builtin "type.__getattribute__"))) && readsIn (Kf P) c (.type "type") && keepIn (Kf P) (.ref f) && aY f 1173
noncomputable def U1(x:Option CFound)(f:Addr):Bool:=match x with
|some (.val (.ref g))=>aj g f
|_=>false
theorem ajn{x:Option CFound}{f:Addr}(h:U1 x f=true):x=some (.val (.ref f)):=by
 cases x with
|none=>exact xf h
|some y=>cases y with
 |val v=>cases v with
  |ref g=>exact congrArg (λa=>some (CFound.val (.ref a))) (aP h)
  |_=>exact xf h
 |_=>exact xf h
def U2(P:Params)(c:Addr)(name:Str)(f:Addr):Bool:=U1 (findCls (Kf P) (.ref c) (.type "type") name) f
theorem ajo(P:Params):(tab.meths.all λp=>p.2.all λq=>U0 P p.1 q.1 q.2 && U2 P p.1 q.1 q.2)=true:=by kernel_rfl
theorem ajp(P:Params):(tab.pG.all λp=>keepIn (Kf P) (.ref p.1))=true:=by kernel_rfl
theorem ajq(P:Params):(tab.oA.all λp=>keepIn (Kf P) (.ref p.1))=true:=by kernel_rfl
def U3(P:Params)(a fI:Addr):Bool:=makesIn (Kf P) a && (findIn (Kf P) (.ref a) "__init__" == some (some (.ref fI))) && (typeIn (Kf P) (.ref fI) == some (.type "function"))
theorem ajr(P:Params):(tab.oA.all λp=>U3 P p.1 p.2)=true:=by kernel_rfl
def U4(P:Params)(c:Addr):Bool:=plainGet (Kf P) c "__class__" && hasDictIn (Kf P) c && (findIn (Kf P) (.ref c) "__class__" == some (some (.builtin "object.__class__"))) &&
 (specialIn (Kf P) (.builtin "object.__class__") "__get__" == some (some (.builtin "getset_descriptor.__get__"))) && (takesIn (Kf P) (.builtin "object.__class__") == some true) && (mroIn (Kf P) c (.type "object") == some true) &&
 (kitOne (Kf P) (.ref c) (.type "bool") == some false) && (kitOne (Kf P) (.ref c) (.type "int") == some false) && (kitOne (Kf P) (.ref c) (.type "str") == some false) && ((clsIn (Kf P) c).isSome && typeIn (Kf P) (.ref c) == some (.type "type"))
theorem ajs(P:Params):(tab.bases.all λp=>U4 P p.1)=true:=by kernel_rfl
theorem ajt(P:Params):(tab.bases.all λp=>tab.bases.all λq=>kitOne (Kf P) (.ref p.1) (.ref q.1) == some (p.2.contains q.1))=true:=by kernel_rfl
noncomputable def nS(o:Obj):Array DictEntry:=match o.data with
|.dict es _=>es
|_=>#[]
noncomputable def Ac(o:Obj):Nat:=match o.data with
|.dict _ n=>n
|_=>0
noncomputable def U5:Value->Value->Bool
|.ref a,.ref b=>aj a b && aY a 1173
|.type a,.type b=>a == b
|.builtin a,.builtin b=>a == b
|_,_=>false
noncomputable def U6(d:Data):Bool:=match d with
|.seq _ _=>true
|_=>false
def U7(o:Obj):Bool:=(o.cls == .type "tuple") && o.dict.isNone && aj o.slots.size 0 && U6 o.data
def yJ(P:Params)(v:Value)(p:PV):Bool:=match p with
|.st u=>U5 v u
|.tup l=>match v with
 |.ref a=>U7 (kU P a) && Cu (Aa (kU P a)) l && ((objs P)[a]?).isSome
 |_=>false
|p=>Ft v p
noncomputable def yK(es:Array DictEntry):Bool:=es.toList.all λe=>match e.key with
|.str _ _=>true
|_=>false
theorem KG(P:Params):(objs P)[3]?=some (kU P 3)/\(kU P 3).data=.dict (nS (kU P 3)) (Ac (kU P 3))/\yK (nS (kU P 3))=true:=⟨by kernel_rfl,by kernel_rfl,by kernel_rfl⟩
theorem KH(P:Params):(objs P)[0]?=some (kU P 0)/\(kU P 0).data=.dict (nS (kU P 0)) (Ac (kU P 0))/\yK (nS (kU P 0))=true:=⟨by kernel_rfl,by kernel_rfl,by kernel_rfl⟩
theorem Fu(P:Params):(objs P)[2]?=some (kU P 2)/\(kU P 2).data=.dict (nS (kU P 2)) (Ac (kU P 2))/\yK (nS (kU P 2))=true/\nsFind (nS (kU P 2)) "sys.recursionlimit"=none:=⟨by kernel_rfl,by kernel_rfl,by kernel_rfl,by kernel_rfl⟩
def KJ(P:Params)(a b:Option Value)(p:PV):Bool:=match a with
|some v=>yJ P v p
|none=>match b with
 |some v=>yJ P v p
 |none=>false
theorem aju(P:Params):(tab.glob.all λq=>KJ P (nsFind (nS (kU P 3)) q.1) (nsFind (nS (kU P 0)) q.1) q.2)=true:=by kernel_rfl
theorem ajv(P:Params):Ew P tab:=λc ns h a ha=>by
 have m:=uP h
 have h1:=aI.mp (aif P) _ m
 have h2:=aI.mp (ajm P) _ m
 refine jL (c9.mp ha) λx hx e=>?_
 have:=jS.mp e
 subst this
 have h3:=aI.mp h2 _ hx
 unfold UU at h1
 unfold UW at h3
 simp only [aN,beq_iff_eq] at h1 h3
 exact ⟨h3.1,h1.1.1,h3.2,h1.1.2,h1.2⟩
theorem ajw(P:Params){c:Addr}{ms:List (Str×Addr)}(h:jv tab.meths c=some ms){name:Str}{f:Addr}(hf:ja ms name=some f):JF P c name f:=by
 have h1:=aI.mp (aI.mp (ajo P) _ (uP h)) _ (tS hf)
 unfold U0 U2 at h1
 simp only [aN,beq_iff_eq] at h1
 refine jB (h1) λlH k=>?_
 obtain ⟨⟨⟨⟨⟨⟨⟨a,b⟩,c'⟩,d⟩,e⟩,f'⟩,g⟩,i⟩:=lH
 exact ⟨a,b,c',d,e,f',ajn k,g,uE i⟩
theorem ajx(P:Params){a fI:Addr}(h:jv tab.oA a=some fI):SV P a fI:=by
 have h1:=aI.mp (ajr P) _ (uP h)
 unfold U3 at h1
 simp only [aN,beq_iff_eq] at h1
 exact ⟨h1.1.1,h1.1.2,h1.2⟩
theorem ajy(P:Params):EV P tab:=⟨λc bs h=>by
  have h1:=aI.mp (ajs P) _ (uP h)
  unfold U4 at h1
  simp only [aN,beq_iff_eq] at h1
  obtain ⟨⟨⟨⟨⟨⟨⟨⟨⟨a,b⟩,c'⟩,d⟩,e⟩,f⟩,g⟩,i⟩,j⟩,k⟩:=h1
  exact ⟨a,b,c',d,e,f,g,i,j,by simp [k]⟩,λc bs C B7 h h'=>by
  have h1:=aI.mp (aI.mp (ajt P) _ (uP h)) _ (uP h')
  exact beq_iff_eq.mp h1⟩
theorem ajz{a b:Value}(h:U5 a b=true):a=b/\Ec a=true:=by
 cases a with
|ref a=>cases b with
 |ref b=>exact xb (show (aj a b && aY a 1173)=true from h) λh1 h2=>⟨congrArg _ (aP h1),decide_eq_true (uE h2)⟩
 |_=>exact xf h
|«type» a=>cases b with
 |«type» b=>exact ⟨congrArg _ (beq_iff_eq.mp (show (a == b)=true from h)),rfl⟩
 |_=>exact xf h
|builtin a=>cases b with
 |builtin b=>exact ⟨congrArg _ (beq_iff_eq.mp (show (a == b)=true from h)),rfl⟩
 |_=>exact xf h
|_=>exact xf h
theorem ajA{d:Data}(h:U6 d=true):∃xs n,d=.seq xs n:=by
 cases d with
|seq xs n=>exact ⟨xs,n,rfl⟩
|_=>exact xf h
theorem ajB{o:Obj}(h:U7 o=true):∃xs n,o=⟨.type "tuple",none,.seq xs n,#[]⟩/\Aa o=xs.toList:=
 xb h λh h4=>xb h λh h3=>xb h λh1 h2=>(ajA h4).elim λxs z=>z.elim λn e=>⟨xs,n,by
  have e1:=beq_iff_eq.mp h1
  have e2:=ek.mp h2
  have e3:=Array.eq_empty_of_size_eq_zero (aP h3)
  rw [<-e1,<-e2,<-e3,<-e],by unfold Aa;rw [e]⟩
set_option tactic.hygienic true in
theorem U8{w:World}{X:Em}{h:Heap}(B:Base w X η h){v:Value}{p:PV}(hb:yJ w.params v p=true):VR X v p:=by
 unfold yJ at hb
 split at hb
 ·refine jB (ajz hb) λe i=>?_
  subst e
  exact .st i
 ·split at hb
  ·rename_i l a
   simp only [aN] at hb
   refine jB (hb) λKN h3=>?_
   obtain ⟨h1,h2⟩:=KN
   refine oK (cz.mp h3) λo ho=>?_
   have e:kU w.params a=o:=by
    unfold kU;rw [ho];exact ez _
   rw [e] at h1 h2
   refine nY (ajB h1) λxs n e1 e2=>?_
   rw [e2] at h2
   subst e1
   exact .tup (vs:=xs.toList) (n:=n) (by unfold Internal.tC;rw [Array.toArray_toList];exact B.st ho) (Kz h2)
  ·exact xf hb
 ·exact UX hb
set_option tactic.hygienic true in
theorem U9{es:Array DictEntry}(h:yK es=true):StrKeys es:=λe he=>by
 have:=aI.mp h e (eU.mpr he)
 split at this
 ·rename_i x t q;exact ⟨x,t,q⟩
 ·exact xf this
theorem KQ{w:World}{X:Em}{h:Heap}(B:Base w X η h){a:Nat}{o:Obj}(ho:(objs w.params)[a]?=some o)(hd:o.data=.dict (nS o) (Ac o))(hk:yK (nS o)=true):h.Ns a (nsFind (nS o)):=
 ⟨o,nS o,Ac o,B.fz (B.st ho),hd,U9 hk,λJ=>rfl⟩
theorem ajC{P:Params}{a b:Option Value}{p:PV}(h:KJ P a b p=true):∃v,yJ P v p=true/\(a=some v\/(a=none/\b=some v)):=by
 unfold KJ at h
 split at h
 ·exact ⟨_,h,.inl rfl⟩
 ·split at h
  ·exact ⟨_,h,.inr ⟨rfl,rfl⟩⟩
  ·exact xf h
theorem ajD{w:World}{x:Str}{p:PV}(h:ja tab.glob x=some p){X:Em}{η:AH}{hp:Heap}(B:Base w X η hp):∃v,VR X v p/\∃mg mb,hp.Ns mainGlobals mg/\hp.Ns builtinsNs mb/\(mg x=some v\/(mg x=none/\mb x=some v)):=by
 have h1:=aI.mp (aju w.params) _ (tS h)
 have n3:=KQ B (KG w.params).1 (KG w.params).2.1 (KG w.params).2.2
 have n0:=KQ B (KH w.params).1 (KH w.params).2.1 (KH w.params).2.2
 refine jL (ajC h1) λv hb q=>?_
 exact ⟨v,U8 B hb,_,_,n3,n0,q⟩
theorem ajE{w:World}{X:Em}{η:AH}{h:Heap}(B:Base w X η h):h.NoLimit:=⟨_,KQ B (Fu w.params).1 (Fu w.params).2.1 (Fu w.params).2.2.1,(Fu w.params).2.2.2⟩
def qc(e:DictEntry):Str:=match e.key with
|.str x _=>x
|_=>bh #[]
noncomputable def U'(e:DictEntry):Nat:=match e.key with
|.str _ t=>t
|_=>0
def Cv(P:Params):List DictEntry->List (Str×PV)->Bool
|[],[]=>true
|e::es,p::ps=>sq (qc e) p.1 && yJ P e.val p.2 && Cv P es ps
|_,_=>false
def ajF(P:Params)(a:Addr)(l:List (Str×PV)):Bool:=Cv P (nS (kU P a)).toList l && yK (nS (kU P a)) && Ab ((nS (kU P a)).toList.map qc) && !aj a 1
theorem ajG(P:Params):(tab.tE.all λp=>ajF P p.1 p.2)=true:=by kernel_rfl
structure KS(P:Params)(a:Addr):Prop where
 ob:(objs P)[a]?=some ⟨.type "dict",none,.dict (nS (kU P a)) (Ac (kU P a)),#[]⟩
 hs:nS (kU P a)=((nS (kU P a)).toList.map λe=>(⟨fQ P (qc e),.str (qc e) (U' e),e.val⟩:DictEntry)).toArray
theorem ajH(P:Params):KS P 767:=⟨by kernel_rfl,by kernel_rfl⟩
theorem ajI(P:Params):KS P 770:=⟨by kernel_rfl,by kernel_rfl⟩
theorem ajJ(P:Params):∀a l,(a,l)∈tab.tE->KS P a:=by
 intro a l h
 have h':a=767\/a=770:=by
  have:(tab.tE.all λp=>aj p.1 767 || aj p.1 770)=true:=by kernel_rfl
  have:=aI.mp this _ h
  rw [bC] at this
  rcases this with q|q
  ·exact .inl (aP q)
  ·exact .inr (aP q)
 rcases h' with rfl|rfl
 ·exact ajH P
 ·exact ajI P
theorem Va{w:World}:∀{es:List DictEntry},(∀e∈es,∃n t,e.key=.str n t)->PySem.Pairs (PySem.strKind pw w) es (es.map λe=>(qc e,e.val))
|[],_=>.nil
|e::es,h=>by
  obtain ⟨x,t,q⟩:=h e (bL ..)
  refine .cons ?_ rfl (Va λe' he=>h e' (bu _ he))
  show (PySem.strKind pw w).is (qc e) e.key=true
  have:qc e=x:=by unfold qc;rw [q]
  rw [this,q]
  exact strKind_is pw w x t
theorem Vb{w:World}{X:Em}{η:AH}{h:Heap}(B:Base w X η h):∀{es:List DictEntry} {l:List (Str×PV)},Cv w.params es l=true->KR X (es.map λe=>(qc e,e.val)) l
|[],[],_=>.nil
|e::es,(x,p)::ps,hb=>by
  have h':(sq (qc e) x && yJ w.params e.val p && Cv w.params es ps)=true:=hb
  simp only [aN] at h'
  obtain ⟨⟨h1,h2⟩,h3⟩:=h'
  have:=jS.mp h1
  subst this
  exact .cons (U8 B h2) (Vb B h3)
|[],_::_,h=>by cases h
|_::_,[],h=>by cases h
theorem ajK(w:World):Jj w tab:=⟨λ{a l} hl {X η h} B=>by
 have m:=uP hl
 have h1:=aI.mp (ajG w.params) _ m
 have K:=ajJ w.params a l m
 have sN:(Cv w.params (nS (kU w.params a)).toList l && yK (nS (kU w.params a)) && Ab ((nS (kU w.params a)).toList.map qc) && !aj a 1)=true:=h1
 simp only [aN] at sN
 obtain ⟨⟨⟨k1,k2⟩,k3⟩,k4⟩:=sN
 obtain ⟨ob,hs⟩:=K
 generalize nS (kU w.params a)=es at *
 have ne:a≠sysModules:=λe=>by
  subst e
  cases k4
 refine ⟨ne,es.toList.map λe=>(qc e,e.val),?_,Vb B k1⟩
 have sk:=U9 k2
 refine ⟨_,es,_,B.fz (B.st ob),?_,rfl,λe he=>?_,Va λe he=>sk e (eU.mp he),?_⟩
 ·exact ⟨rfl,rfl,rfl⟩
 ·obtain ⟨x,t,q⟩:=sk e he
  refine ⟨x,by rw [q];exact strKind_is pw w x t,?_⟩
  rw [hs] at he
  simp only [List.mem_toArray,aQ] at he
  obtain ⟨e',_,rfl⟩:=he
  have:qc e'=x:=by
   have q':Value.str (qc e') (U' e')=.str x t:=q
   injection q'
  rw [<-this]
  show fQ w.params (qc e')=hashStr w (qc e')
  rfl
 ·rw [eX]
  exact KD k3⟩
theorem ajL(P:Params){a:Addr}{fi:rj}(h:jv tab.pG a=some fi):keepIn (Kf P) (.ref a)=true:=(aI.mp (ajp P) (a,fi) (uP h) :)
theorem ajM(P:Params){a fi:Addr}(h:jv tab.oA a=some fi):keepIn (Kf P) (.ref a)=true:=(aI.mp (ajq P) (a,fi) (uP h) :)
theorem ajN{w:World}{a:Addr}{fi:rj}(h:jv tab.pG a=some fi):∃o fd dv,FnAt w a fi o fd dv:=(ajl w.params h).at
theorem good(w:World)(S:B8 w):Good w tab:=
 @Good.mk w tab (@ajD w) (ajK w) (ajv w.params) (@ajw w.params) (@ajL w.params) (@ajM w.params) (@ajN w) (@ajE w) (@ajx w.params) (ajy w.params) S
section
noncomputable def runK{α:Type}(c:Nat->Nat->Bool):KasT α->α
|.ret a=>a
|.ask i j k=>runK c (k (c i j))
theorem Ae{α β:Type}{c:Nat->Nat->Bool}{f:α->KasT β}:∀(t:KasT α),runK c (t.bind f)=runK c (f (runK c t))
|.ret _=>rfl
|.ask i j k=>Ae (k (c i j))
structure Ord(c:Nat->Nat->Bool)(N:Nat):Prop where
 tr:∀i j k,i<N->j<N->k<N->c i j=true->c j k=true->c i k=true
 Cw:∀i j,i<N->j<N->i≠j->c i j=false->c j i=true
structure oG(N:Nat)(p:Array Nat):Prop where
 sz:p.size=N
 pm:p.toList.Perm (aX N)
section
variable{c:Nat->Nat->Bool}{N:Nat}{p:Array Nat}
noncomputable abbrev jM(p:Array Nat)(i:Nat):Nat:=p.getD i 0
theorem yL{i:Nat}(h:i<p.size):p[i]?=some (jM p i):=by
 unfold jM
 rw [dJ,d8 h];rfl
theorem Fv{q:Array Nat}{i:Nat}(h:p[i]?=q[j]?):jM p i=jM q j:=by
 unfold jM
 rw [dJ,dJ,h]
theorem oG.lt(P:oG N p){i:Nat}(h:i<N):jM p i<N:=by
 have h1:=yL (p:=p) (i:=i) (by rw [P.sz];exact h)
 have:jM p i∈p.toList:=eU.mpr (iL h1)
 have:=(P.pm.mem_iff).mp this
 exact List.mem_range.mp this
theorem oG.ne(P:oG N p){i:Nat}(hi:i<N)(hj:j<N)(h:i≠j):jM p i≠jM p j:=λe=>by
 have nd:p.toList.Nodup:=P.pm.nodup_iff.mpr List.nodup_range
 have h1:=yL (p:=p) (i:=i) (by rw [P.sz];exact hi)
 have h2:=yL (p:=p) (i:=j) (by rw [P.sz];exact hj)
 rw [e] at h1
 rw [<-gv] at h1 h2
 have l1:i<p.toList.length:=by rw [ew,P.sz];exact hi
 exact h ((List.getElem?_inj l1 nd).mp (h1.trans h2.symm))
def qQ(c:Nat->Nat->Bool)(p:Array Nat)(m:Nat):Prop:=∀i j,i<j->j<m->c (jM p i) (jM p j)=true
def Af(c:Nat->Nat->Bool)(p:Array Nat)(m:Nat):Prop:=∀i j,i<j->j<m->c (jM p j) (jM p i)=true
theorem qQ.one:qQ c p 1:=λi j h k=>absurd (aA h (aO k)) (dW _)
theorem KV(O:Ord c N)(P:oG N p):∀(f n:Nat),1<=n->n+f<=N->qQ c p n->qQ c p (runK c (kas_asc p f n))/\n<=runK c (kas_asc p f n)/\runK c (kas_asc p f n)<=n+f/\(runK c (kas_asc p f n)<n+f->c (jM p (runK c (kas_asc p f n))) (jM p (runK c (kas_asc p f n) - 1))=true)
|0,n,h1,h2,h=>⟨h,ak _,ak _,λq=>absurd q (aM _)⟩
|f+1,n,h1,h2,h=>by
  show qQ c p (runK c (if c (jM p n) (jM p (n - 1))=true then .ret n else kas_asc p f (n+1)))/\n<=runK c (if c (jM p n) (jM p (n - 1))=true then .ret n else kas_asc p f (n+1))/\runK c (if c (jM p n) (jM p (n - 1))=true then .ret n else kas_asc p f (n+1))<=n+(f+1)/\
   (runK c (if c (jM p n) (jM p (n - 1))=true then .ret n else kas_asc p f (n+1))<n+(f+1)->c (jM p (runK c (if c (jM p n) (jM p (n - 1))=true then .ret n else kas_asc p f (n+1)))) (jM p (runK c (if c (jM p n) (jM p (n - 1))=true then .ret n else kas_asc p f (n+1)) - 1))=true)
  induction q:c (jM p n) (jM p (n - 1)) using Bool.casesOn with
 |true=>exact ⟨h,ak _,aG _ _,λJ=>q⟩
 |false=>
   rw [if_neg (dc rfl)]
   have up:c (jM p (n - 1)) (jM p n)=true:=O.Cw _ _ (P.lt (zp h2)) (P.lt (zq h2)) (P.ne (zp h2) (zq h2) (ace h1)) q
   have h':qQ c p (n+1):=λi j hi hj=>by
    by_cases e:j=n
    ·subst e
     by_cases e2:i=j - 1
     ·subst e2;exact up
     ·exact O.tr _ _ _ (P.lt (Pk hi h2)) (P.lt (zq h2)) (P.lt (zp h2)) (h i (j - 1) (H9 hi e2) (acf h1)) up
    ·exact h i j hi (Pp hj e)
   refine zu (KV O P f (n+1) (acg) (Pq h2) h') λa b d e=>?_
   exact ⟨a,by exact H8 b,by exact ach d,λq=>e (aci q)⟩
theorem Vc(O:Ord c N)(P:oG N p):∀(f n:Nat),2<=n->n+f<=N->Af c p n->∃m,runK c (kas_desc f p n 0)=(p,m,0)/\n<=m/\m<=N/\Af c p m
|0,n,h1,h2,h=>⟨n,rfl,ak _,by assumption,h⟩
|f+1,n,h1,h2,h=>by
  show ∃m,runK c (if c (jM p n) (jM p (n - 1))=true then (if 0>0 then kas_desc f (kas_rev p (n - (0+1)) n) (n+1) 0 else kas_desc f p (n+1) 0)
   else .ask (jM p (n - 1)) (jM p n) λd=>if d=true then .ret (p,n,0) else kas_desc f p (n+1) (0+1))=(p,m,0)/\n<=m/\m<=N/\Af c p m
  induction q:c (jM p n) (jM p (n - 1)) using Bool.casesOn with
 |true=>
   rw [if_pos rfl,if_neg (dc rfl)]
   have h':Af c p (n+1):=λi j hi hj=>by
    by_cases e:j=n
    ·subst e
     by_cases e2:i=j - 1
     ·subst e2;exact q
     ·exact O.tr _ _ _ (P.lt (zp h2)) (P.lt (zq h2)) (P.lt (Pk hi h2)) q (h i (j - 1) (H9 hi e2) (acj h1))
    ·exact h i j hi (Pp hj e)
   refine Bt (Vc O P f (n+1) (ack h1) (Pq h2) h') λm a b d e=>?_
   exact ⟨m,a,by exact H8 b,d,e⟩
 |false=>
   rw [if_neg (dc rfl)]
   have up:c (jM p (n - 1)) (jM p n)=true:=O.Cw _ _ (P.lt (zp h2)) (P.lt (zq h2)) (P.ne (zp h2) (zq h2) (acm h1)) q
   refine ⟨n,?_,ak _,by exact acn h2,h⟩
   show runK c (if c (jM p (n - 1)) (jM p n)=true then _ else _)=_
   rw [up,if_pos rfl];rfl
theorem oG.rev(P:oG N p)(i j:Nat):oG N (kas_rev p i j):=⟨(mirror_size ..).trans P.sz,(iM.mp (mirror_perm p i j _)).trans P.pm⟩
theorem oG.bub(P:oG N p)(k d:Nat):oG N (bubble p k d):=⟨(bubble_size ..).trans P.sz,(iM.mp (bubble_perm p k d)).trans P.pm⟩
theorem ajO(P:oG N p){m:Nat}(hm:m<=N)(h:Af c p m):qQ c (kas_rev p 0 m) m:=λi j hi hj=>by
 have g:∀k,k<m->jM (kas_rev p 0 m) k=jM p (m - 1 - k):=λk hk=>Fv (by
  have:=getElem?_mirror_all (xs:=p) (i:=0) (j:=m) (by rw [P.sz];exact hm) k
  rw [if_pos ⟨bx _,hk⟩,cU] at this
  exact this)
 rw [g i (aco hi hj),g j hj]
 exact h (m - 1 - j) (m - 1 - i) (acp hi hj) (acq hj)
theorem ajP(O:Ord c N)(P:oG N p)(hN:2<=N):∃m q,runK c (kas_count N p)=(m,q)/\oG N q/\1<=m/\m<=N/\qQ c q m:=by
 refine zu (KV O P (N - 1) 1 (ak _) (acr hN) qQ.one) λa b d e=>?_
 unfold kas_count
 rw [Ae]
 generalize hm:runK c (kas_asc p (N - 1) 1)=m at *
 by_cases h1:(m == N)=true
 ·rw [if_pos h1]
  exact Ii m p rfl P b (Pu hN d) a
 ·rw [if_neg h1]
  by_cases h2:m>1
  ·rw [if_pos h2]
   have up:=a 0 (m - 1) (acs h2) (acu h2)
   refine Ii m p ?_ P b (Pu hN d) a
   show runK c (if c (jM p 0) (jM p (m - 1))=true then _ else _)=_
   rw [up,if_pos rfl];rfl
  ·rw [if_neg h2]
   have pA:m=1:=acv b h2
   subst pA
   have hd:Af c p 2:=λi j hi hj=>by
    have:i=0/\j=1:=acw hi hj
    refine jB (this) λlH o7=>?_
    obtain rfl:=lH
    obtain rfl:=o7
    exact e (by
     have:¬ (1 == N)=true:=h1
     simp at this;exact acy hN)
   refine Bt (Vc O P (N - (1+1)) (1+1) (ak _) (acz hN) hd) λm r1 r2 r3 r4=>?_
   unfold kas_descPart
   rw [Ae,r1]
   dsimp only
   rw [if_neg (dc rfl)]
   unfold kas_tail3
   rw [Ae]
   refine zu (KV O (P.rev 0 m) (N - m) m (acA r2) (acB r3) (ajO P r3 r4)) λa' b' d' J=>?_
   exact Ii _ _ rfl (P.rev 0 m) (acC r2 b') (acD r3 d') a'
theorem KW(O:Ord c N)(P:oG N p){k:Nat}(hk:k<N):∀(f l r:Nat),l<=r->r<=k->r - l<=f->(∀i,i<l->c (jM p i) (jM p k)=true)->(∀i,r<=i->i<k->c (jM p k) (jM p i)=true)->qQ c p k->
  ∃m,runK c (kas_place p k f l r)=m/\m<=k/\(∀i,i<m->c (jM p i) (jM p k)=true)/\(∀i,m<=i->i<k->c (jM p k) (jM p i)=true)
|0,l,r,h1,h2,h3,h4,h5,h6=>⟨l,rfl,by exact HP h1 h2,h4,λi a b=>h5 i (acE h3 a) b⟩
|f+1,l,r,h1,h2,h3,h4,h5,h6=>by
  show ∃m,runK c (if l>=r then .ret l else .ask (jM p k) (jM p ((l+r) / 2)) λq=>if q=true then kas_place p k f l ((l+r) / 2) else kas_place p k f ((l+r) / 2+1) r)=m/\_
  by_cases Fw:l>=r
  ·rw [if_pos Fw]
   exact ⟨l,rfl,by exact HP h1 h2,h4,λi a b=>h5 i (HP Fw a) b⟩
  ·rw [if_neg Fw]
   show ∃m,runK c (if c (jM p k) (jM p ((l+r) / 2))=true then _ else _)=m/\_
   have uQ:(l+r) / 2<r/\l<=(l+r) / 2:=acF Fw
   induction q:c (jM p k) (jM p ((l+r) / 2)) using Bool.casesOn with
  |true=>
    rw [if_pos rfl]
    refine KW O P hk f l ((l+r) / 2) uQ.2 (acG h2 uQ) (acH h3) h4 (λi a b=>?_) h6
    by_cases e:i=(l+r) / 2
    ·rw [e];exact q
    ·exact O.tr _ _ _ (P.lt hk) (P.lt (DQ hk h2 uQ)) (P.lt (DR hk b)) q (h6 ((l+r) / 2) i (acI a e) b)
  |false=>
    rw [if_neg (dc rfl)]
    have up:=O.Cw _ _ (P.lt hk) (P.lt (i:=(l+r) / 2) (DQ hk h2 uQ)) (P.ne hk (DQ hk h2 uQ) (acJ h2 uQ)) q
    refine KW O P hk f ((l+r) / 2+1) r (acK uQ) h2 (acL h3) (λi a=>?_) h5 h6
    by_cases e:i=(l+r) / 2
    ·rw [e];exact up
    ·exact O.tr _ _ _ (P.lt (acM hk h2 uQ a)) (P.lt (DQ hk h2 uQ)) (P.lt hk) (h6 i ((l+r) / 2) (acN a e) (acO h2 uQ)) up
theorem Vd(O:Ord c N):∀(f:Nat) (p:Array Nat) (k:Nat),oG N p->k+f=N->qQ c p k->oG N (runK c (kas_bin f p k))/\qQ c (runK c (kas_bin f p k)) N
|0,p,k,P,h,a=>⟨P,by have:k=N:=h;subst this;exact a⟩
|f+1,p,k,P,h,a=>by
  show oG N (runK c ((kas_place p k k 0 k).bind λl=>kas_bin f (bubble p k (k - l)) (k+1)))/\qQ c (runK c ((kas_place p k k 0 k).bind λl=>kas_bin f (bubble p k (k - l)) (k+1))) N
  rw [Ae]
  refine Bt (KW O P (k:=k) (Pw h) k 0 k (bx _) (ak _) (eN _ _) (λi h=>absurd h (dW _)) (λi a b=>absurd b (Nat.not_lt.mpr a)) a) λm e hm lo hi=>?_
  rw [e]
  refine Vd O f (bubble p k (k - m)) (k+1) (P.bub _ _) (acP h) λi j qw hj=>?_
  have g:∀t,t<=k->jM (bubble p k (k - m)) t=if t=m then jM p k else if m<t then jM p (t - 1) else jM p t:=λt ht=>by
   have b:=getElem?_bubble (xs:=p) (src:=k) (by rw [P.sz];exact Pw h) (k - m) (acQ) t
   have e1:k - (k - m)=m:=acR hm
   rw [e1] at b
   by_cases q1:t=m
   ·rw [if_pos q1] at b ⊢;exact Fv b
   ·rw [if_neg q1] at b ⊢
    by_cases q2:m<t
    ·rw [if_pos ⟨q2,ht⟩] at b
     rw [if_pos q2];exact Fv b
    ·rw [if_neg (λz=>q2 z.1)] at b
     rw [if_neg q2];exact Fv b
  rw [g i (acS qw hj),g j (acT hj)]
  by_cases i1:i=m
  ·rw [if_pos i1,if_neg (acU qw i1),if_pos (acV qw i1)]
   exact hi (j - 1) (acW qw i1) (Ia qw hj)
  ·rw [if_neg i1]
   by_cases i2:m<i
   ·rw [if_pos i2,if_neg (acX qw i2),if_pos (DR qw i2)]
    exact a (i - 1) (j - 1) (acY qw i2) (Ia qw hj)
   ·rw [if_neg i2]
    by_cases j1:j=m
    ·rw [if_pos j1];exact lo i (acZ qw j1)
    ·rw [if_neg j1]
     by_cases j2:m<j
     ·rw [if_pos j2]
      by_cases q:i=j - 1
      ·exact absurd (dF j2) (λz=>i2 (c6 (ah z (aq q.symm)) λe=>i1 e.symm))
      ·exact a i (j - 1) (H9 qw q) (Ia qw hj)
     ·rw [if_neg j2];exact a i j qw (ac0 hm j1 j2)
theorem ajQ(O:Ord c N)(hN:2<=N):oG N (runK c (kas_sort N))/\qQ c (runK c (kas_sort N)) N:=by
 have P0:oG N (cK (aX N)):=⟨by simp,.refl _⟩
 refine aeH (ajP O P0 hN) λm q e P h1 h2 a=>?_
 unfold kas_sort
 rw [Ae,e]
 dsimp only
 by_cases h:m<N
 ·rw [if_pos h]
  have:max m 1=m:=ac1 h1
  rw [this]
  exact Vd O (N - m) q m P (ac2 h) a
 ·rw [if_neg h]
  have:m=N:=ac3 h2 h
  subst this
  exact ⟨P,a⟩
end
end
section
open PySem.SeqAt
open PySem.AutoSeq1 (wpAny_loadPart')
def KX(A:Around)(s:Shared)(x y:Value)(b:Bool):Prop:=
 ∀(prog:Program) (w:World) (E:Value->Shared->Prop) (Q:Value->Shared->Prop),Q (.bool b) s->wpAny (model prog w) A (richCompare .Lt x y) Q E s
noncomputable def Ag(e r:Nat->Bool)(fin:Bool):List Nat->Bool
|[]=>fin
|i::t=>if e i=true then Ag e r fin t else r i
theorem ajR(l b:Addr)(items oH:Array Value)(n n2:Nat)(dd dd2:Option Addr)(sl sl2:Array (Option Value))(e r:Nat->Bool):
  Meets (Builtin.«tuple.__lt__» ⟨[.ref l,.ref b],[]⟩)
   (λA R s=>s.heap.get? l=some { cls:=.type "tuple",dict:=dd,data:=.seq items n,slots:=sl }/\s.heap.get? b=some { cls:=.type "tuple",dict:=dd2,data:=.seq oH n2,slots:=sl2 }/\
    (∀j (h1:j<items.size) (h2:j<oH.size),EqAt A.in1 s items[j] oH[j] (e j))/\(∀j (h1:j<items.size) (h2:j<oH.size),e j=false->KX A.in1 s items[j] oH[j] (r j))/\
    R (.ok (.ret (.bool (Ag e r (decide (items.size<oH.size)) (aX (min items.size oH.size)))))) s):=
 .of_wp λprog w A R s h=>by
  obtain ⟨hp,g,d,tk,os⟩:=s;obtain ⟨hl,hb,he,hr,h⟩:=h
  have f2:=AutoSeq1.sub_tuple_tuple
  have hZ:(items.toList.zip oH.toList).length=min items.size oH.size:=by simp
  wp_walk using wpAny_loadPart' hl,wpAny_loadPart' hb,wpAny_forIn_list _ (λrest b s'=>b.1=none/\s'=⟨hp,g,d,tk,os⟩/\∃i,rest=(items.toList.zip oH.toList).drop i/\
   R (.ok (.ret (.bool (Ag e r (decide (items.size<oH.size)) ((aX (min items.size oH.size)).drop i))))) ⟨hp,g,d,tk,os⟩) _
  case turn=>
   rintro ⟨y,x⟩ rest b s' ⟨KY,rfl,i,hz,hR⟩
   have qx:i<(items.toList.zip oH.toList).length:=by
    rcases Nat.lt_or_ge i (items.toList.zip oH.toList).length with h'|h'
    ·exact h'
    ·rw [iN h'] at hz;cases hz
   have hm:i<min items.size oH.size:=hZ▸qx
   have h1:i<items.size:=aA hm (fJ _ _)
   have h2:i<oH.size:=aA hm (Nat.min_le_right _ _)
   rw [gw qx] at hz
   injection hz with Ve qy
   have hy:y=items[i]:=by have:=congrArg az Ve;simpa using this
   have hx:x=oH[i]:=by have:=congrArg cP Ve;simpa using this
   subst hy hx
   have hd:(aX (min items.size oH.size)).drop i=i::(aX (min items.size oH.size)).drop (i+1):=by simp [gw,hm]
   rw [hd] at hR
   unfold Ag at hR
   refine wpAny_bind (he i h1 h2 prog w _ _ ?_)
   cases hy:e i with
  |true=>
    rw [hy,if_pos rfl] at hR
    wp_walk
    exact ⟨rfl,rfl,i+1,qy,hR⟩
  |false=>
    rw [hy,if_neg (dc rfl)] at hR
    rw [if_pos (dc rfl)]
    refine wpAny_bind (wpAny_rule ?_)
    refine wpAny_bind (hr i h1 h2 hy prog w _ _ ?_)
    refine wpAny_bind (wpAny_pure (a:=Fin.done (.ret (.bool (r i)))) (wpAny_pure ?_))
    exact wpAny_pure ⟨_,rfl,hR⟩
  case fin=>
   rintro ⟨b1,b2⟩ s' ⟨KY,rfl,i,hz,hR⟩
   simp only at KY
   subst KY
   have hge:min items.size oH.size<=i:=by
    rcases Nat.lt_or_ge i (items.toList.zip oH.toList).length with h'|h'
    ·rw [gw h'] at hz;cases hz
    ·exact hZ▸h'
   rw [iN (by simpa using hge)] at hR
   wp_walk
   exact ⟨_,rfl,by simpa [Builtin.Tuple.tupleCompareSizes,Ag] using hR⟩
  case h=>
   exact ⟨rfl,rfl,0,rfl,by simpa using h⟩
end
section
open PySem.SeqAt
def lR{α:Type}(N:Nat)(G:α->Prop):KasT α->Prop
|.ret a=>G a
|.ask i j k=>i<N/\j<N/\∀b,lR N G (k b)
theorem lR.bind{α β:Type}{N:Nat}{G:α->Prop}{G':β->Prop}{f:α->KasT β}(hf:∀a,G a->lR N G' (f a)):∀(t:KasT α),lR N G t->lR N G' (t.bind f)
|.ret a,h=>hf a h
|.ask i j k,h=>⟨h.1,h.2.1,λb=>lR.bind hf (k b) (h.2.2 b)⟩
theorem lR.ite{α:Type}{N:Nat}{G:α->Prop}{c:Prop}[Decidable c]{a b:KasT α}(ha:c->lR N G a)(hb:¬ c->lR N G b):lR N G (if c then a else b):=by
 by_cases h:c
 ·rw [if_pos h];exact ha h
 ·rw [if_neg h];exact hb h
def pM(N:Nat)(p:Array Nat):Prop:=∀x,jM p x<N
theorem pM.perm{N:Nat}{p q:Array Nat}(hN:0<N)(h:q.Perm p)(B:pM N p):pM N q:=λx=>by
 by_cases hx:x<q.size
 ·have h1:=yL hx
  have m:jM q x∈q:=iL h1
  have m':jM q x∈p:=(Array.Perm.mem_iff h).mp m
  obtain ⟨i,hi,e⟩:=Array.mem_iff_getElem.mp m'
  have:=B i
  have e2:jM p i=p[i]:=by
   have:=yL hi
   rw [d8 hi] at this
   exact (ai this).symm
  rw [<-e,<-e2];exact this
 ·show q.getD x 0<N
  rw [dJ,Array.getElem?_eq_none (dG hx)]
  exact hN
section
variable{N:Nat}
theorem KZ{p:Array Nat}(B:pM N p){G:Nat->Prop}(hG:∀m,G m):∀(f n:Nat),lR N G (kas_asc p f n)
|0,n=>hG n
|f+1,n=>⟨B n,B (n - 1),λb=>lR.ite (λJ=>hG n) λJ=>KZ B hG f (n+1)⟩
theorem Fx(hN:0<N):∀(f:Nat) (p:Array Nat) (n q:Nat),pM N p->lR N (λr:Array Nat×Nat×Nat=>pM N r.1) (kas_desc f p n q)
|0,p,n,q,B=>B
|f+1,p,n,q,B=>⟨B n,B (n - 1),λb=>lR.ite
   (λJ=>lR.ite (λJ=>Fx hN f _ _ _ (B.perm hN (mirror_perm p _ _ _))) λJ=>Fx hN f _ _ _ B)
   λJ=>⟨B (n - 1),B n,λd=>lR.ite (λJ=>B) λJ=>Fx hN f _ _ _ B⟩⟩
theorem Vf(hN:0<N){p:Array Nat}(B:pM N p)(n Cx:Nat):lR N (λr:Nat×Array Nat=>pM N r.2) (kas_tail3 n Cx p):=by
 unfold kas_tail3
 refine lR.bind (G:=λJ=>True) (λm J=>?_) _ (KZ (B.perm hN (mirror_perm p _ _ _)) (λJ=>trivial) _ _)
 show pM N (kas_rev p 0 n)
 exact B.perm hN (mirror_perm p _ _ _)
theorem Vg(hN:0<N){p:Array Nat}(B:pM N p)(n Cx:Nat):lR N (λr:Nat×Array Nat=>pM N r.2) (kas_descPart n Cx p):=by
 unfold kas_descPart
 refine lR.bind (λr h=>?_) _ (Fx hN _ _ _ _ B)
 exact lR.ite (λJ=>Vf hN (pM.perm hN (mirror_perm r.1 _ _ _) h) _ _) λJ=>Vf hN h _ _
theorem ajS(hN:0<N){p:Array Nat}(B:pM N p)(Cx:Nat):lR N (λr:Nat×Array Nat=>pM N r.2) (kas_count Cx p):=by
 unfold kas_count
 refine lR.bind (G:=λJ=>True) (λn J=>?_) _ (KZ B (λJ=>trivial) _ _)
 refine lR.ite (λJ=>B) λJ=>lR.ite (λJ=>?_) λJ=>Vg hN B _ _
 exact ⟨B 0,B (n - 1),λb=>lR.ite (λJ=>B) λJ=>Vg hN (B.perm hN (mirror_perm p _ _ _)) _ _⟩
theorem La{p:Array Nat}(B:pM N p)(k:Nat):∀(f l r:Nat),lR N (λ_:Nat=>True) (kas_place p k f l r)
|0,l,r=>trivial
|f+1,l,r=>lR.ite (λJ=>trivial) λJ=>⟨B k,B _,λb=>lR.ite (λJ=>La B k f _ _) λJ=>La B k f _ _⟩
theorem Vh(hN:0<N):∀(f:Nat) (p:Array Nat) (k:Nat),pM N p->lR N (λ_:Array Nat=>True) (kas_bin f p k)
|0,p,k,B=>trivial
|f+1,p,k,B=>lR.bind (λl J=>Vh hN f _ _ (B.perm hN (bubble_perm p k _))) _ (La B k _ _ _)
theorem ajT(hN:0<N):lR N (λ_:Array Nat=>True) (kas_sort N):=by
 have B:pM N (cK (aX N)):=λx=>by
  show (cK (aX N)).getD x 0<N
  rw [dJ]
  by_cases h:x<N
  ·simp [h]
  ·simp [h];exact hN
 unfold kas_sort
 refine lR.bind (λr h=>?_) _ (ajS hN B N)
 exact lR.ite (λJ=>Vh hN _ _ _ h) λJ=>trivial
end
theorem wp_run{α:Type}{N:Nat}{c:Nat->Nat->Bool}{cmp:Nat->Nat->(Bool->Shared->Prop)->Shared->Prop}{s:Shared}(hc:∀i j,i<N->j<N->∀C:Bool->Shared->Prop,C (c i j) s->cmp i j C s){Q:α->Shared->Prop}{G:α->Prop}:∀(t:KasT α),lR N G t->Q (runK c t) s->t.kasWp cmp Q s
|.ret a,_,q=>q
|.ask i j k,h,q=>hc i j h.1 h.2.1 _ (wp_run hc (k (c i j)) (h.2.2 _) q)
end
section
open PySem.SeqAt
section
variable{w:World}{E:Value->Shared->Prop}{s:Shared}
def uR(c:Nat->Nat->Bool)(vs:List Value):List Value:=(runK c (kas_sort vs.length)).toList.map λi=>vs.getD i dh
theorem ajU{a:Addr}{vs:List Value}{c:Nat->Nat->Bool}{P:PySem.Fin->Shared->Prop}(ho:s.heap.get? a=some (seqObj "list" vs.toArray n))(h2:2<=vs.length)(xt:vs.length<64)
  (hk:∀h':Heap,(∀b o,b≠a->s.heap.get? b=some o->h'.get? b=some o)->∀Q:SortKind->Shared->Prop,Q (tuples' false) { s with heap:=h' }->wpAny (model prog w) A (keyKind' vs.toArray) Q (λJ J=>False) { s with heap:=h' })
  (hc:∀h':Heap,(∀b o,b≠a->s.heap.get? b=some o->h'.get? b=some o)->∀i j,i<vs.length->j<vs.length->∀C:Bool->Shared->Prop,C (c i j) { s with heap:=h' }->kas_ask prog w A (tuples' false) vs i j C { s with heap:=h' })
  (h:∀h' e,(∀b o,b≠a->s.heap.get? b=some o->h'.get? b=some o)->h'.get? a=some (seqObj "list" (uR c vs).toArray e)->P (.done (.ret .none)) { s with heap:=h' }) :
  wpAny (model prog w) A (Builtin.«list.sort» ⟨[.ref a],[]⟩) P E s:=by
 have ha:a<s.heap.objs.size:=cH ho
 have s1:=d7 s.heap a (bc λJ=>(#[]:Array Value))
 obtain ⟨e1,Vi⟩:∃e1,(s.heap.update a (bc λJ=>(#[]:Array Value))).get? a=some (seqObj "list" #[] e1):=⟨_,get?_update_seq ho λJ=>#[]⟩
 have keep:∀b o,b≠a->s.heap.get? b=some o->(((s.heap.update a (bc λJ=>(#[]:Array Value))).push (seqObj "tuple" vs.toArray 0)).push (seqObj "list" #[] 0)).get? b=some o:=λb o hb e=>
  bS _ (bS _ ((s1.2 b hb).trans e))
 have na:(((s.heap.update a (bc λJ=>(#[]:Array Value))).push (seqObj "tuple" vs.toArray 0)).push (seqObj "list" #[] 0)).get? a=some (seqObj "list" #[] e1):=bS _ (bS _ Vi)
 rw [list_sort_plain]
 refine wpAny_bind (listItems_at ho rfl ?_)
 refine wpAny_bind (listUpdate_at ho rfl ?_ (by rw [bM,sizeLine_eq];exact DS xt) (bx _))
 refine wpAny_bind (seqEpoch_at Vi rfl ?_)
 refine wpAny_bind (wpAny_newTuple ?_ (by show vs.length<=_;rw [sizeLine_eq];exact DS xt))
 refine wpAny_bind (wpAny_newList ?_ (bx _))
 refine wpAny_holding ?_
 show wpAny (model prog w) A _ P E { s with heap:=((s.heap.update a (bc λJ=>(#[]:Array Value))).push (seqObj "tuple" vs.toArray 0)).push (seqObj "list" #[] 0) }
 generalize ((s.heap.update a (bc λJ=>(#[]:Array Value))).push (seqObj "tuple" vs.toArray 0)).push (seqObj "list" #[] 0)=H at keep na ⊢
 dsimp only
 have rF:¬ vs.toArray.size<2:=by rw [bM];exact ac4 h2
 rw [if_neg rF,if_neg rF]
 refine wpAny_bind (wpAny_mono (hk H keep (λκ s'=>κ=tuples' false/\s'={ s with heap:=H }) ⟨rfl,rfl⟩) (λκ s0 hh=>?_) λJ J x=>x.elim)
 obtain ⟨rfl,rfl⟩:=hh
 have tree:=wp_run (c:=c) (cmp:=kas_ask prog w A (tuples' false) vs) (s:={ s with heap:=H }) (hc H keep) (Q:=λp s'=>p=runK c (kas_sort vs.length)/\s'={ s with heap:=H }) (kas_sort vs.length) (ajT (ac5 h2)) ⟨rfl,rfl⟩
 refine wpAny_bind (wpAny_mono (kat_run (Q:=λFy s'=>∃p:Array Nat,p.size=vs.length/\arrOf Fy=p.map (kas_item (vs.toArray.zip vs.toArray))/\failedOf Fy=none/\p=runK c (kas_sort vs.length)/\s'={ s with heap:=H })
  rfl h2 xt (λp' Fy s' a1 a2 a3 a4=>⟨p',a1,a2,a3,a4⟩) tree) ?_ λJ J e=>e)
 rintro ⟨⟨⟩,Fy⟩ s' ⟨p,hp,har,hf,rfl,rfl⟩
 dsimp only
 have ajV:=kat_snds rfl har
 have qL:(cK (uR c vs)).size=vs.length:=by rw [bM];unfold uR;rw [aC,ew,hp]
 rw [ajV]
 show wpAny (model prog w) A _ P E { s with heap:=H }
 have s2:=d7 H a (bc λJ=>cK (uR c vs))
 obtain ⟨c2,hc2⟩:∃c2,(H.update a (bc λJ=>cK (uR c vs))).get? a=some (seqObj "list" (cK (uR c vs)) c2):=⟨_,get?_update_seq na λJ=>cK (uR c vs)⟩
 refine wpAny_bind (seqEpoch_at na rfl ?_)
 refine wpAny_bind (listUpdate_at na rfl ?_ (bx _) (ah (aq qL) (by rw [sizeLine_eq];exact ac6 xt)))
 rw [hf]
 simp only [bne_self_eq_false,gy,if_false]
 exact wpAny_pure (h _ c2 (λb o hb e=>(s2.2 b hb).trans (keep b o hb e)) hc2)
theorem ajW{l:Addr}{vs:List Value}{c:Nat->Nat->Bool}{Q:Value->Shared->Prop}(hl:s.heap.IsList l vs.toArray)(h2:2<=vs.length)(xt:vs.length<64)
  (hk:∀h':Heap,(∀b o,s.heap.get? b=some o->h'.get? b=some o)->∀Q:SortKind->Shared->Prop,Q (tuples' false) { s with heap:=h' }->wpAny (model prog w) A.in1.in1 (keyKind' vs.toArray) Q (λJ J=>False) { s with heap:=h' })
  (hc:∀h':Heap,(∀b o,s.heap.get? b=some o->h'.get? b=some o)->∀i j,i<vs.length->j<vs.length->∀C:Bool->Shared->Prop,C (c i j) { s with heap:=h' }->kas_ask prog w A.in1.in1 (tuples' false) vs i j C { s with heap:=h' })
  (h:∀D h' e,s.heap.objs.size<=D->(∀b o,s.heap.get? b=some o->h'.get? b=some o)->h'.get? D=some (seqObj "list" (uR c vs).toArray e)->Q (.ref D) { s with heap:=h' }) :
  wpAny (model prog w) A (call (.builtin "sorted") [.ref l]) Q E s:=by
 refine Calls.call_function_entry kind_sorted plain_sorted entry_sorted (args_sorted1 _) ?_
 unfold Builtin.«sorted»
 refine wpAny_bind (m:=checkCount "sorted" 1 1 _) (wpAny_pure ?_)
 refine wpAny_bind (collect_list hl ?_ (by rw [sizeLine_eq];exact DS xt))
 refine wpAny_bind (wpAny_newList ?_ (by rw [sizeLine_eq];exact DS xt))
 have qL:((s.heap.push (seqObj "list" #[] 0)).update s.heap.objs.size (bc (·++vs.toArray))).objs.size=s.heap.objs.size+1:=by
  rw [Heap.size_update,size_push']
 have Vj:(((s.heap.push (seqObj "list" #[] 0)).update s.heap.objs.size (bc (·++vs.toArray))).push (seqObj "list" vs.toArray 0)).get? (s.heap.objs.size+1)=some (seqObj "list" vs.toArray 0):=by
  rw [<-qL];exact bK _ rfl
 have keep:∀b o,s.heap.get? b=some o->(((s.heap.push (seqObj "list" #[] 0)).update s.heap.objs.size (bc (·++vs.toArray))).push (seqObj "list" vs.toArray 0)).get? b=some o:=λb o q=>by
  have qx:b<s.heap.objs.size:=cH q
  rw [Heap.get?_push_ne _ _ _ (by rw [qL];exact bI (fS qx)),Heap.get?_update_ne _ _ _ _ (bI qx),Heap.get?_push_ne _ _ _ (bI qx)]
  exact q
 show wpAny _ _ _ _ _ { s with heap:=((s.heap.push (seqObj "list" #[] 0)).update s.heap.objs.size (bc (·++vs.toArray))).push (seqObj "list" vs.toArray 0) }
 rw [qL]
 refine wpAny_bind (wpAny_holding (wpAny_call_entry slot_list_sort ⟨_,Vj,rfl⟩ entry_list_sort ?body (args_list_sort _)))
 case body=>
  have up:∀h':Heap,(∀b o,b≠s.heap.objs.size+1->(((s.heap.push (seqObj "list" #[] 0)).update s.heap.objs.size (bc (·++vs.toArray))).push (seqObj "list" vs.toArray 0)).get? b=some o->h'.get? b=some o)->∀b o,s.heap.get? b=some o->h'.get? b=some o:=
   λh' k b o q=>k b o (bI (fS (cH q))) (keep b o q)
  refine ajU (c:=c) (s:={ s with heap:=((s.heap.push (seqObj "list" #[] 0)).update s.heap.objs.size (bc (·++vs.toArray))).push (seqObj "list" vs.toArray 0) }) Vj h2 xt (λh' k=>hk h' (up h' k)) (λh' k=>hc h' (up h' k)) λh' e k q=>⟨_,rfl,wpAny_pure ⟨_,rfl,h _ h' e (aW _) (up h' k) q⟩⟩
end
end
section
open PySem.SeqAt
noncomputable def o8(x y:Int×Int):Bool:=decide (x.1<y.1) || (decide (x.1=y.1) && decide (x.2<y.2))
theorem uc{x y:Int×Int}:o8 x y=true↔x.1<y.1\/(x.1=y.1/\x.2<y.2):=by
 unfold o8
 rw [bC,aN,decide_eq_true_iff,decide_eq_true_iff,decide_eq_true_iff]
def qz(p:PV):Int×Int:=(keyOf p).getD (0,0)
theorem Cy{p:PV}{a:Int×Int}(h:keyOf p=some a):qz p=a:=congrArg (λo:Option (Int×Int)=>o.getD (0,0)) h
theorem Vk{α:Type}{o:Option α}{a:α}(h:o=some a):o.isSome=true:=h▸rfl
def uS(p q:PV):Prop:=o8 (qz p) (qz q)=true
theorem lex_trans{x y z:Int×Int}(a:o8 x y=true)(b:o8 y z=true):o8 x z=true:=uc.mpr (Pg (uc.mp a) (uc.mp b))
theorem ajX{x y:Int×Int}(a:o8 x y=false)(b:(decide (x.1=y.1) && decide (x.2=y.2))=false):o8 y x=true:=by
 unfold o8 at a
 rw [iu,iO,decide_eq_false_iff_not,decide_eq_false_iff_not,decide_eq_false_iff_not] at a
 rw [iO,decide_eq_false_iff_not,decide_eq_false_iff_not] at b
 exact uc.mpr (Ph a b)
theorem Vl{p:PV}{r:List PV}:∀{r':List PV},BG p r=some r'->r.Pairwise uS->r'.Perm (p::r)/\r'.Pairwise uS/\(r≠[]->(keyOf p).isSome=true/\∃q Cz,r=q::Cz/\(keyOf q).isSome=true):=by
 induction r with
|nil=>exact λh J=>ai h▸⟨.refl _,List.pairwise_singleton _ _,λe=>absurd rfl e⟩
|cons q r ih=>
  refine λh pw=>jg h λa hp h=>jg h λc hq h=>?_
  have sm:q::r≠[]->(keyOf p).isSome=true/\∃q' Cz,q::r=q'::Cz/\(keyOf q').isSome=true:=λJ=>⟨Vk hp,q,r,rfl,Vk hq⟩
  have pr:=c5.mp pw
  have L:o8 (qz p) (qz q)=o8 a c:=by rw [Cy hp,Cy hq]
  refine mE h (λq1 h=>?_) λq1 h=>mE h (λJ h=>xn h) λq2 h=>jq h λCz h2 e=>?_
  ·rw [<-ai h]
   have pq:uS p q:=L.trans q1
   refine ⟨.refl _,c5.mpr ⟨λx hx=>(aB.mp hx).elim (λe=>e▸pq) λe=>lex_trans pq (pr.1 x e),pw⟩,sm⟩
  ·rw [<-e]
   have i:=ih h2 pr.2
   have qp:uS q p:=by
    unfold uS
    rw [Cy hp,Cy hq]
    exact ajX q1 q2
   refine ⟨(i.1.cons q).trans (.swap ..),c5.mpr ⟨λx hx=>(aB.mp (i.1.mem_iff.mp hx)).elim (λe=>e▸qp) λe=>pr.1 x e,i.2.1⟩,sm⟩
theorem Lb{l:List PV}:∀{l':List PV},wN l=some l'->l'.Perm l/\l'.Pairwise uS:=by
 induction l with
|nil=>exact λh=>ai h▸⟨.refl _,.nil⟩
|cons p r ih=>exact λh=>jg h λr' h1 h2=>have a:=ih h1;have b:=Vl h2 a.2;⟨b.1.trans (a.1.cons p),b.2.1⟩
theorem ajY{l:List PV}:∀{l':List PV},wN l=some l'->2<=l.length->∀p∈l,(keyOf p).isSome=true:=by
 induction l with
|nil=>exact λJ h=>absurd h (gj 1)
|cons p r ih=>
  refine λh h2=>jg h λr' h1 h3=>?_
  have pm:=(Lb h1).1
  have ne:r'≠[]:=λe=>bI (eE h2) (by rw [<-pm.length_eq,e];rfl)
  refine λx hx=>((Vl h3 (Lb h1).2).2.2 ne).elim λkp z=>z.elim λq z=>z.elim λCz z=>(aB.mp hx).elim (λe=>e▸kp) λe=>?_
  match r,h1,e,pm with
 |[y],_,e,pm=>
   have:=(pm.mem_iff (a:=q)).mp (z.1▸bL)
   rw [aJ.mp e,<-aJ.mp this]
   exact z.2
 |y::y'::r,h1,e,_=>exact ih h1 (aL (aL (bx _))) x e
theorem ajZ{p:PV}(h:(keyOf p).isSome=true):∃a b x s,p=.tup [.tup [.int a,.int b,.bool x],.str s]/\qz p=(a,b):=(cz.mp h).elim λy hy=>by
 refine jg (o:=gT p) hy λl h1 h=>jg h λq h2 h=>jg h λs h3 h=>jg h λl2 h4 h=>?_
 have sh:∀{l:List PV},(match l with|[a,b,.bool _]=>(gI a).bind λx=>(gI b).map λy=>(x,y)|_=>none)=some y->∃a b x,l=[.int a,.int b,.bool x]/\y=(a,b):=by
  exact λ{l} h=>match l,h with
 |[],h=>xn h
 |[_],h=>xn h
 |[_,_],h=>xn h
 |_::_::c::_::_,h=>by cases c<;>exact xn h
 |[a,b,c],h=>by
   cases c with
  |bool x=>exact jg h λa' ha h=>jq h λb' hb e=>⟨a',b',x,by rw [vH ha,vH hb],e.symm⟩
  |_=>exact xn h
 obtain ⟨a,b,x,e,e2⟩:=sh (l:=l2) h
 exact ⟨a,b,x,s,by rw [BL h1,QT h2,BL h4,vJ h3,e],(Cy hy).trans e2⟩
end
section
open PySem.SeqAt
def Pt(h:Heap)(v:Value)(y:Int×Int):Prop:=∃t n k m ta tb x s ts,v=.ref t/\h.get? t=some (tC [.ref k,.str s ts] n)/\h.get? k=some (tC [.int y.1 ta,.int y.2 tb,.bool x] m)
theorem aj0{w:World}{X:Em}{h:Heap}(B:Base w X η h){v:Value}{p:PV}(hk:(keyOf p).isSome=true)(r:VR X v p):Pt h v (qz p):=by
 obtain ⟨a,b,x,s,e,e2⟩:=ajZ hk
 rw [e2]
 rw [e] at r
 refine vU r λt vs n h1 r1=>?_
 revert h1
 refine mK r1 λv1 us r2 r3=>mK r3 λv2 us r4 r5=>oM r5 (vU r2 λk ws m h2 q1=>?_)
 revert h2
 exact mK q1 λw1 J q2 q3=>mK q3 λw2 J q4 q5=>mK q5 λw3 J q6 q7=>oM q7 (vI q2 λta=>vI q4 λtb=>vB q6 (vS r4 λts h2 h1=>⟨t,n,k,m,ta,tb,x,s,ts,rfl,B.fz h1,B.fz h2⟩))
theorem Vm{s:Shared}(a b:Int)(t u:Tok):KX A s (.int a t) (.int b u) (decide (a<b)):=λprog w E Q h=>PyProof.Rows.lt_int h
theorem aj1{s:Shared}(a b:Bool):KX A s (.bool a) (.bool b) (decide (b2i a<b2i b)):=λprog w E Q h=>PyProof.Rows.lt_bool h
section
variable{w:World}{s:Shared}
theorem aj2{v u:Value}{y z:Int×Int}{C:Bool->Shared->Prop}(hu:A.units+2<cLine)(p:Pt s.heap v y)(q:Pt s.heap u z)(hd:v=u\/y≠z)(he:v=u->y=z)(h:C (o8 y z) s):wpAny (model prog w) A (keyLt' (tuples' false) v u) C (λJ J=>False) s:=by
 refine zy (p) λt n k m ta tb x s1 ts Lc h1 h2=>?_
 obtain rfl:=Lc
 refine zy (q) λt' n' k' m' xu xA x' s2 Vn Ld g1 g2=>?_
 obtain rfl:=Ld
 refine kat_lt h1 rfl g1 rfl ?_
 show KatLex prog w A false _ C [(.ref k,.ref k'),(.str s1 ts,.str s2 Vn)] 0 s
 rcases hd with e|ne
 ·have hyz:=he e
  subst hyz
  have et:t=t':=cJ e
  subst et
  rw [h1] at g1
  cases g1
  refine kat_cons (EqAt.same (A:=A) (s:=s) _ prog w _ _ (kat_yes (kat_cons (EqAt.same (A:=A) (s:=s) _ prog w _ _ (kat_yes (kat_nil ?_))))))
  have:o8 y y=decide ((#[er k,Value.str s1 ts]:Array Value).size<(#[er k,Value.str s1 ts]:Array Value).size):=by
   unfold o8;simp
  rw [<-this];exact h
 ·have mh:k≠k':=λe=>by
   subst e
   rw [h2] at g2
   injection g2 with g2
   injection g2 with _ _ g3 _
   injection g3 with g3 _
   have Lf:=congrArg fT g3
   simp at Lf
   exact ne (dQ Lf.1.1 Lf.2.1.1)
  let e:Nat->Bool:=λj=>match j with|0=>y.1 == z.1|1=>y.2 == z.2|_=>x == x'
  let r:Nat->Bool:=λj=>match j with|0=>decide (y.1<z.1)|1=>decide (y.2<z.2)|_=>decide (b2i x<b2i x')
  have heq:∀(A:Around) j (i1:j<(#[Value.int y.1 ta,.int y.2 tb,.bool x]:Array Value).size) (i2:j<(#[Value.int z.1 xu,.int z.2 xA,.bool x']:Array Value).size),EqAt A s (#[Value.int y.1 ta,.int y.2 tb,.bool x]:Array Value)[j] (#[Value.int z.1 xu,.int z.2 xA,.bool x']:Array Value)[j] (e j):=λA j i1 i2=>by
   match j,i1,i2 with
  |0,_,_=>exact EqAt.int_int _ _ _ _
  |1,_,_=>exact EqAt.int_int _ _ _ _
  |2,_,_=>exact EqAt.bool_bool _ _
  |j+3,i1,_=>exact absurd i1 (by simp)
  have L1:s.heap.IsTuple k #[.int y.1 ta,.int y.2 tb,.bool x]:=⟨_,h2,rfl,_,rfl⟩
  have L2:s.heap.IsTuple k' #[.int z.1 xu,.int z.2 xA,.bool x']:=⟨_,g2,rfl,_,rfl⟩
  have Vo:=EqAt.of_refs mh (RcAt.tuples (A:=A) (e:=e) L1 L2 (OO hu) (heq A.in1))
  have val:((aX (min (#[Value.int y.1 ta,.int y.2 tb,.bool x]:Array Value).size (#[Value.int z.1 xu,.int z.2 xA,.bool x']:Array Value).size)).all e && (#[Value.int y.1 ta,.int y.2 tb,.bool x]:Array Value).size == (#[Value.int z.1 xu,.int z.2 xA,.bool x']:Array Value).size)=false:=by
   have:((aX 3).all e)=false:=by
    show (e 0 && (e 1 && (e 2 && true)))=false
    induction q0:e 0 using Bool.casesOn with
   |false=>rfl
   |true=>
     induction q1:e 1 using Bool.casesOn with
    |false=>rfl
    |true=>exact absurd (dQ (beq_iff_eq.mp q0) (beq_iff_eq.mp q1)) ne
   show ((aX 3).all e && true)=false
   rw [this];rfl
  rw [val] at Vo
  refine kat_cons (Vo prog w _ _ (kat_no ?_))
  show wpAny (model prog w) A (oneLt' false (.ref k) (.ref k')) C _ s
  refine kat_one _ _ ?_
  show wpAny (model prog w) A (richCompare .Lt (.ref k) (.ref k')) (PySem.W.BoolBack C) _ s
  refine richCompare_meets_room (op:=.Lt) ⟨_,h2,rfl⟩ ⟨_,g2,rfl⟩ PySem.F.slot_tuple_lt PySem.F.entry_tuple_lt (PySem.F.args_tuple_lt_2 _ _) (ajR k k' _ _ _ _ _ _ _ _ e r)
   ⟨h2,g2,heq A.in1,λj i1 i2 J=>?_,?_⟩ (OO hu)
  ·match j,i1,i2 with
  |0,_,_=>exact Vm _ _ _ _
  |1,_,_=>exact Vm _ _ _ _
  |2,_,_=>exact aj1 _ _
  |j+3,i1,_=>exact absurd i1 (by simp)
  ·have res:Ag e r (decide ((#[Value.int y.1 ta,.int y.2 tb,.bool x]:Array Value).size<(#[Value.int z.1 xu,.int z.2 xA,.bool x']:Array Value).size)) (aX (min (#[Value.int y.1 ta,.int y.2 tb,.bool x]:Array Value).size (#[Value.int z.1 xu,.int z.2 xA,.bool x']:Array Value).size))=o8 y z:=by
    show (if e 0=true then (if e 1=true then (if e 2=true then decide (3<3) else r 2) else r 1) else r 0)=_
    induction q0:e 0 using Bool.casesOn with
   |false=>
     rw [if_neg (dc rfl)]
     have:¬ y.1=z.1:=beq_eq_false_iff_ne.mp q0
     show decide (y.1<z.1)=_
     unfold o8
     simp [this]
   |true=>
     have e0:y.1=z.1:=beq_iff_eq.mp q0
     rw [if_pos rfl]
     induction q1:e 1 using Bool.casesOn with
    |false=>
      rw [if_neg (dc rfl)]
      show decide (y.2<z.2)=_
      unfold o8
      simp [e0]
    |true=>exact absurd (dQ e0 (beq_iff_eq.mp q1)) ne
   rw [res]
   exact ⟨λx=>(nomatch x),h⟩
end
end
section
open PySem.SeqAt
theorem kat_tups{h:Heap}:∀{vs:List Value} {ks:List (Int×Int)},vs.length=ks.length->(∀(i:Nat) (v:Value) (y:Int×Int),vs[i]?=some v->ks[i]?=some y->Pt h v y)->∃fs,KatTups h vs fs/\fs.length=vs.length/\∀f∈fs,∃k o,f=.ref k/\h.get? k=some o/\o.cls=.type "tuple"
|[],[],_,_=>⟨[],KatTups.nil,rfl,λf hf=>by simp at hf⟩
|v::vs,y::ks,hl,hp=>by
  refine vo (kat_tups (h:=h) (vs:=vs) (ks:=ks) (dK hl) λi v y e1 e2=>hp (i+1) v y (by simpa using e1) (by simpa using e2)) λfs a b c=>?_
  refine zy (hp 0 v y rfl rfl) λt n k m ta tb x s ts lH h1 h2=>?_
  obtain rfl:=lH
  refine ⟨.ref k::fs,KatTups.cons h1 rfl rfl rfl a,congrArg (·+1) b,λf hf=>?_⟩
  rcases aB.mp hf with e|e
  ·exact yf k _ e h2 rfl
  ·exact c f e
|[],_::_,hl,_=>by cases hl
|_::_,[],hl,_=>by cases hl
theorem aj3(w:World):B8 w:=by
 intro A X η s l l' a vs m hh hu k1 rs h2 h60 hs B E Q kk
 have hlen:=rs.length
 have v5:2<=l.length:=b5 h2
 have aj4:l.length<=60:=b5 h60
 have keys:=ajY hs v5
 refine jB (Lb hs) λpm pw=>?_
 have nd:(l.map qz).Nodup:=by
  have h1:(l'.map qz).Nodup:=by
   rw [List.nodup_iff_pairwise_ne,fy]
   exact pw.imp λ{p q} h e=>by
    unfold uS at h
    rw [e,uc] at h
    exact adV h
  exact (pm.map qz).nodup_iff.mp h1
 let key:Nat->Int×Int:=λi=>qz (l.getD i .none)
 let c:Nat->Nat->Bool:=λi j=>o8 (key i) (key j)
 have Vp:∀{i:Nat} {p:PV},l[i]?=some p->key i=qz p:=λ{i p} e=>by
  show qz (l.getD i .none)=_
  rw [dS,e];rfl
 have Lg:∀i,i<l.length->(l.map qz)[i]?=some (key i):=λi hi=>by
  rw [cQ,aR hi]
  exact congrArg some (Vp (aR hi)).symm
 have key_ne:∀i j,i<l.length->j<l.length->i≠j->key i≠key j:=λi j hi hj ne e=>by
  have h1:=Lg i hi
  have h2:=Lg j hj
  rw [e] at h1
  exact ne ((List.getElem?_inj (by rw [aC];exact hi) nd).mp (h1.trans h2.symm))
 have O:Ord c l.length:=⟨λi j k J J J a b=>by
   have a':=uc.mp a
   have b':=uc.mp b
   exact uc.mpr (Pg a' b'),λi j hi hj ne q=>by
   have h1:=key_ne i j hi hj ne
   have h3:¬ ((key i).1<(key j).1\/((key i).1=(key j).1/\(key i).2<(key j).2)):=λz=>by
    have:=uc.mpr z
    have q':o8 (key i) (key j)=false:=q
    rw [this] at q';cases q'
   refine uc.mpr ?_
   by_cases e:(key i).1=(key j).1
   ·by_cases e2:(key i).2=(key j).2
    ·exact absurd (dQ e e2) h1
    ·exact adW h3 e2
   ·exact adX h3 e⟩
 have Lh:∀h':Heap,(∀b o,s.heap.get? b=some o->h'.get? b=some o)->∀i v,vs[i]?=some v->Pt h' v (key i):=λh' up i v e=>by
  have hi:i<vs.length:=(cY.mp e).1
  have Li:i<l.length:=DT hlen hi
  refine jL (rs.get (aR Li)) λv' e1 Lj=>?_
  rw [e] at e1;cases e1
  have hk:=keys l[i] (dj Li)
  have:=aj0 B hk Lj
  rw [<-Vp (aR Li)] at this
  refine zy (this) λt n k m ta tb x s1 ts q1 q2 q3=>?_
  exact aeO t n k m ta tb x s1 ts q1 (up _ _ q2) (up _ _ q3)
 have Vq:∀i,i<vs.length->vs[i]?=some (vs.getD i dh):=λi hi=>by
  rw [dS,aR hi];rfl
 have hL:s.heap.IsList a vs.toArray:=⟨_,k1,rfl,_,rfl⟩
 refine ajW (c:=c) hL (adZ hlen v5) (ad0 hlen aj4) (λh' up Q hq=>?_) (λh' up i j hi hj C hC=>?_) (λD h' e hD up Lk=>?_)
 ·obtain ⟨fs,t1,t2,t3⟩:=kat_tups (h:=h') (vs:=vs) (ks:=l.map qz) (by rw [aC];exact hlen) λi v y e1 e2=>by
   have hi:i<vs.length:=(cY.mp e1).1
   have:y=key i:=by
    have:=Lg i (DT hlen hi)
    rw [e2] at this
    exact ai this
   rw [this];exact Lh h' up i v e1
  refine kat_kind (s:={ s with heap:=h' }) (T:=.type "tuple") t1 (ad1 hlen v5 t2) (λf hf=>?_) (dc rfl) hq
  refine D0 (t3 f hf) λk o v7 e1 e2=>?_
  obtain rfl:=v7
  exact e2▸(Looks.ld e1).andThen .now
 ·have pi:=Lh h' up i _ (Vq i hi)
  have pj:=Lh h' up j _ (Vq j hj)
  unfold kas_ask
  refine aj2 (s:={ s with heap:=h' }) (by show A.units+1+1+2<cLine;unfold cLine;exact ad2 hu) pi pj ?_ ?_ hC
  ·by_cases e:i=j
   ·subst e;exact .inl rfl
   ·exact .inr (key_ne i j (DT hlen hi) (DT hlen hj) e)
  ·intro e
   rw [e] at pi
   refine zy (pi) λt n k m ta tb x s1 ts q1 q2 q3=>?_
   refine zy (pj) λt' n' k' m' xu xA x' s1' Vn Vr Vs Fz=>?_
   rw [q1] at Vr
   cases Vr
   rw [q2] at Vs
   cases Vs
   rw [q3] at Fz
   injection Fz with Fz
   injection Fz with _ _ q4 _
   injection q4 with q4 _
   have q5:=congrArg fT q4
   simp at q5
   exact dQ q5.1.1 q5.2.1.1
 ·have N0:vs.length=l.length:=hlen
  refine jB (ajQ O v5) λP asc=>?_
  have aj5:uR c vs=(runK c (kas_sort l.length)).toList.map λi=>vs.getD i dh:=by unfold uR;rw [N0]
  generalize hq:runK c (kas_sort l.length)=q at *
  have aj6:∀i∈q.toList,i<l.length:=λi hi=>List.mem_range.mp ((P.pm.mem_iff).mp hi)
  have out:jr X (q.toList.map λi=>vs.getD i dh) (q.toList.map λi=>l.getD i .none):=by
   have:∀(is:List Nat),(∀i∈is,i<l.length)->jr X (is.map λi=>vs.getD i dh) (is.map λi=>l.getD i .none):=by
    intro is
    induction is with
   |nil=>intro _;exact .nil
   |cons i is ih=>
     intro h
     refine .cons ?_ (ih λj hj=>h j (bu _ hj))
     have hi:=h i (bL ..)
     refine jL (rs.get (aR hi)) λv' e1 Lj=>?_
     have e2:vs.getD i dh=v':=by rw [dS,e1];rfl
     have e3:l.getD i .none=l[i]:=by rw [dS,aR hi];rfl
     show VR X (vs.getD i dh) (l.getD i .none)
     rw [e2,e3];exact Lj
   exact this _ aj6
  have perm:(q.toList.map λi=>l.getD i .none).Perm l:=by
   have e:(aX l.length).map (λi=>l.getD i PV.none)=l:=by
    apply List.ext_getElem?
    intro i
    rw [cQ]
    by_cases hi:i<l.length
    ·rw [gA hi,aR hi]
     show some (l.getD i .none)=_
     rw [dS,aR hi];rfl
    ·rw [cy (by simpa using hi),cy (ad3 hi)];rfl
   have:=P.pm.map (λi=>l.getD i PV.none)
   rwa [e] at this
  have pwq:(q.toList.map λi=>l.getD i .none).Pairwise uS:=by
   rw [fy,List.pairwise_iff_getElem]
   intro i j hi hj qw
   have li:i<q.size:=by rw [<-ew];exact hi
   have lj:j<q.size:=by rw [<-ew];exact hj
   have h3:=asc i j qw (by rw [<-P.sz];exact lj)
   have e1:jM q i=q.toList[i]:=by
    have:=yL li
    rw [d8 li] at this
    have e:=(ai this).symm
    rw [e];simp
   have e2:jM q j=q.toList[j]:=by
    have:=yL lj
    rw [d8 lj] at this
    have e:=(ai this).symm
    rw [e];simp
   rw [e1,e2] at h3
   exact h3
  have eq:(q.toList.map λi=>l.getD i .none)=l':=
   List.Perm.eq_of_pairwise (le:=uS) (λa b J J h1 h2=>by
    unfold uS at h1 h2
    rw [uc] at h1 h2
    omega) pwq pw (perm.trans pm.symm)
  rw [aj5] at Lk
  rw [eq] at out
  exact kk (made (s₁:={ s with heap:=h' }) (t:=s.toks) (d:=none) (e:=none) (.grow up rfl rfl) (B.move λJ=>up _ _) (λ{c} z=>z.elim (λz=>z▸⟨bJ hD,B.off hD,_,Lk⟩) λz=>xn z) (λz=>xn z) (λJ h=>h) (λz=>xn z) ⟨_,e,Lk,out.mono (B.move λJ=>up _ _).zC⟩)
end
theorem Vt{X:Em}:∀{vs:List Value} {ns:List Int},IntsAre vs ns->jr X vs (ns.map .int)
|_,_,.nil=>.nil
|_,_,.cons n t r=>.cons (.int n t) (Vt r)
theorem room:uH callerA 349:=⟨rfl,by decide,by decide⟩
theorem aj7{i:Nat}{o:AO}(e:(⟨[],[]⟩:AH).get r i=some o):False:=by
 unfold AH.get at e
 split at e<;>exact xn e
theorem aj8{w:World}{h:Heap}(Y:∀a o,(objs w.params)[a]?=some o->h.get? a=some o):Base w ⟨λa=>h.get? a,λJ J J=>none,λJ J J=>none⟩ ⟨[],[]⟩ h:=
 ⟨id,Y _ _,λe=>(aj7 e).elim,λq=>xn q,λq=>xn q,λq=>xn q,λq=>xn q⟩
theorem walk{w:World}{s:Shared}{l:Addr}{vs:List Value}{ns:List Int}(S:B8 w)(Y:∀a o,(objs w.params)[a]?=some o->s.heap.get? a=some o)(hg:s.gens=#[])(hl:s.heap.IsList l vs.toArray)(hi:IntsAre vs ns)
  (h:jb 349 (.st (.ref 1172)) [.fl (ns.map .int)] ⟨[],[]⟩ λv J=>v=.bool true) :
  wpAny (model pw w) callerA (PySem.call (.ref 1172) [.ref l]) (λv s'=>v=.bool true/\(∀b o,s.heap.get? b=some o->s'.heap.get? b=some o)/\s'.os=s.os/\s'.gens=#[]) (λJ J=>False) s:=by
 obtain ⟨o,ho,hc,n,hd⟩:=hl
 exact h (good w S) (aj8 Y) (.st (dc rfl)) (.cons (.fl ho hc hd (Vt hi)) .nil) room λ{v s' Z p iY} E B' r q=>⟨vB (v:=v) (q▸r) rfl,λb o e=>B'.fz (E.le.fz e),E.os,E.gens.trans hg⟩
set_option backward.match.sparseCases true
def pN(w:World)(os:OsState):Shared:=(oX (IB w.params) 1173 2017 os).abs
theorem chain{w:World}{n N a k:Nat}{s s':SharedT}{r:Shared}{p p':Pos}(h:segRunT treeTable pw w 11 ann 1 n s (piecesOf (grp a k) env cd p bot)=some (.next,s',cd,p'))
  (k':topRun treeTable pw w 11 ann N s'.abs (restOf (top.drop (a+k)) env cd p' bot)=some r):topRun treeTable pw w 11 ann (n+N) s.abs (restOf (top.drop a) env cd p bot)=some r:=by
 have:=piece_app (q:=⟨0,0,0,0⟩) (segRun_of h) k'
 rw [aeP] at this
 exact this
noncomputable def Ln:Nat:=2
theorem r83(w:World)(os:OsState):topRun treeTable pw w 11 ann Ln (oX (IB w.params) 1173 2017 os).abs (restOf (top.drop 83) env cd ⟨821,0,838,15⟩ bot)=some (pN w os):=by kernel_rfl
def Lp:Nat:=536+Ln
theorem r64(w:World)(os:OsState):topRun treeTable pw w 11 ann Lp (oX (IA w.params) 1059 1873 os).abs (restOf (top.drop 64) env cd ⟨461,0,673,17⟩ bot)=some (pN w os):=
 chain (n:=536) (N:=Ln) (a:=64) (k:=19) (g64 w os) (r83 w os)
def Lq:Nat:=1456+Lp
theorem r63(w:World)(os:OsState):topRun treeTable pw w 11 ann Lq (oX (Iz w.params) 779 1499 os).abs (restOf (top.drop 63) env cd ⟨460,0,460,6⟩ bot)=some (pN w os):=
 chain (n:=1456) (N:=Lp) (a:=63) (k:=1) (g63 w os) (r64 w os)
def Lr:Nat:=16+Lq
theorem r62(w:World)(os:OsState):topRun treeTable pw w 11 ann Lr (oX (zA w.params) 778 1493 os).abs (restOf (top.drop 62) env cd ⟨459,0,459,5⟩ bot)=some (pN w os):=
 chain (n:=16) (N:=Lq) (a:=62) (k:=1) (g62 w os) (r63 w os)
def Ls:Nat:=130+Lr
theorem r61(w:World)(os:OsState):topRun treeTable pw w 11 ann Ls (oX (vq w.params) 770 1471 os).abs (restOf (top.drop 61) env cd ⟨458,0,458,8⟩ bot)=some (pN w os):=
 chain (n:=130) (N:=Lr) (a:=61) (k:=1) (g61 w os) (r62 w os)
def Lv:Nat:=759+Ls
theorem r60(w:World)(os:OsState):topRun treeTable pw w 11 ann Lv (oX (zz w.params) 767 1354 os).abs (restOf (top.drop 60) env cd ⟨457,0,457,7⟩ bot)=some (pN w os):=
 chain (n:=759) (N:=Ls) (a:=60) (k:=1) (g60 w os) (r61 w os)
def Lw:Nat:=66+Lv
theorem r56(w:World)(os:OsState):topRun treeTable pw w 11 ann Lw (oX (Iw w.params) 759 1334 os).abs (restOf (top.drop 56) env cd ⟨402,0,445,17⟩ bot)=some (pN w os):=
 chain (n:=66) (N:=Lv) (a:=56) (k:=4) (g56 w os) (r60 w os)
def Lx:Nat:=589+Lw
theorem r55(w:World)(os:OsState):topRun treeTable pw w 11 ann Lx (oX (Iv w.params) 660 1204 os).abs (restOf (top.drop 55) env cd ⟨392,0,401,24⟩ bot)=some (pN w os):=
 chain (n:=589) (N:=Lw) (a:=55) (k:=1) (g55 w os) (r56 w os)
def Ly:Nat:=1291+Lx
theorem r48(w:World)(os:OsState):topRun treeTable pw w 11 ann Ly (oX (Iu w.params) 527 1008 os).abs (restOf (top.drop 48) env cd ⟨345,0,345,8⟩ bot)=some (pN w os):=
 chain (n:=1291) (N:=Lx) (a:=48) (k:=7) (g48 w os) (r55 w os)
def Lz:Nat:=626+Ly
theorem r43(w:World)(os:OsState):topRun treeTable pw w 11 ann Lz (oX (Ir w.params) 456 878 os).abs (restOf (top.drop 43) env cd ⟨281,0,297,16⟩ bot)=some (pN w os):=
 chain (n:=626) (N:=Ly) (a:=43) (k:=5) (g43 w os) (r48 w os)
def LB:Nat:=700+Lz
theorem r28(w:World)(os:OsState):topRun treeTable pw w 11 ann LB (oX (Iq w.params) 336 690 os).abs (restOf (top.drop 28) env cd ⟨207,0,208,8⟩ bot)=some (pN w os):=
 chain (n:=700) (N:=Lz) (a:=28) (k:=15) (g28 w os) (r43 w os)
def LC:Nat:=826+LB
theorem r13(w:World)(os:OsState):topRun treeTable pw w 11 ann LC (oX (Ip w.params) 229 521 os).abs (restOf (top.drop 13) env cd ⟨80,0,97,40⟩ bot)=some (pN w os):=
 chain (n:=826) (N:=LB) (a:=13) (k:=15) (g13 w os) (r28 w os)
def N9:Nat:=1059+LC
theorem r9(w:World)(os:OsState):topRun treeTable pw w 11 ann N9 (oX (Io w.params) 141 373 os).abs (restOf (top.drop 9) env cd ⟨46,0,52,27⟩ bot)=some (pN w os):=
 chain (n:=1059) (N:=LC) (a:=9) (k:=4) (g9 w os) (r13 w os)
def N5:Nat:=1092+N9
theorem r5(w:World)(os:OsState):topRun treeTable pw w 11 ann N5 (oX (Im w.params) 43 235 os).abs (restOf (top.drop 5) env cd ⟨7,0,15,25⟩ bot)=some (pN w os):=
 chain (n:=1092) (N:=N9) (a:=5) (k:=4) (g5 w os) (r9 w os)
def N0:Nat:=285+N5
theorem r0(w:World)(os:OsState):topRun treeTable pw w 11 ann N0 (oX (Il w.params) 15 187 os).abs (restOf (top.drop 0) env cd ⟨0,0,0,0⟩ bot)=some (pN w os):=
 chain (n:=285) (N:=N5) (a:=0) (k:=5) (g0 w os) (r5 w os)
def Vu(P:Params):Heap:=⟨(pre P).toArray,{}⟩
theorem aj9(w:World)(os:OsState):topGo treeTable pw w 11 ann 12 ⟨boot_heap w.params,#[],boot_drawn,boot_toks,os⟩ (topStub pw)=some (⟨Vu w.params,#[],{},187,os⟩,⟨denote treeTable cd,cd,⟨0,0,0,0⟩,bot⟩):=by kernel_rfl
theorem blk(w:World)(os:OsState):segRun treeTable pw w 11 ann 1 1 ⟨Vu w.params,#[],{},187,os⟩ (blockOf top env cd ⟨0,0,0,0⟩ bot)=some (.next,(oX (Il w.params) 15 187 os).abs,cd,⟨0,0,0,0⟩):=by kernel_rfl
theorem aka(w:World)(os:OsState):topRun treeTable pw w 11 ann (12+(1+N0)) ⟨boot_heap w.params,#[],boot_drawn,boot_toks,os⟩ (topStub pw)=some (pN w os):=
 go_top (n:=12) (N:=1+N0) (aj9 w os) (piece_block (n:=1) (N:=N0) (blk w os) (r0 w os))
def H1(P:Params):Heap:=⟨(objs P).toArray,{}⟩
theorem akb(w:World)(os:OsState):pN w os=⟨H1 w.params,#[],{},2017,os⟩:=by kernel_rfl
def vw:Program:=PySem.W.view pw [82]
noncomputable def loose:List Str:=[ao "_wall",ao "DEEPEST_KEY",ao "MOST_SEEN",ao "Thing",ao "Text",ao "ListThing",ao "TableThing",ao "RangeThing",ao "ProcThing",ao "ErrorThing",ao "FiberThing",ao "ModuleThing",ao "Entry",ao "sort_of",ao "same",ao "takes_in",ao "code_of",ao "full_name",ao "has_thing",ao "own_line",ao "numbered",ao "made_line",ao "line_of",ao "PRIVATE_NAMES",ao "PRIVATE_KERNEL",ao "GivenEntry",ao "sight_of",ao "given_entry",ao "entry_at",ao "first_entry",ao "find",ao "raise_version",ao "own_module",ao "class_above",ao "make_own",ao "copied",ao "is_a",ao "respond",ao "may_send",ao "Call",ao "Frame",ao "Sent",ao "is_hidden",ao "GemError",ao "Raised",ao "give_cause",ao "Way",ao "Env",ao "Task",ao "Walker",ao "refusal",ao "MODULES",ao "BUILTINS",ao "MIXED",ao "UNMADE",ao "World",ao "_law_above",ao "_law_within",ao "_law_counted",ao "_law_who",ao "_law_heads",ao "_law_senders",ao "_law_well",ao "_law_draw",ao "_law_single",ao "_law_mixed",ao "_law_entries",ao "_law_books",ao "_law_made",ao "_law_circle",ao "_law_line",ao "_law_found",ao "_law_agreed"]
noncomputable abbrev lw:OpenLaw:=PySem.Challenge.rw_sm0034_01
theorem said:lw.wellSaid=true:=by
 rw [PySem.W.Fast.te9446332074065402090];kernel_rfl
theorem opn(w:World):(fencedOpening treeTable pw w 20000).map (λs=>(s.heap,s.gens,s.drawn,s.toks))=some (boot_heap w.params,#[],boot_drawn,boot_toks):=
 boot_open (p:=pw) (N:=20000) (by kernel_rfl) (by kernel_rfl) (λs=>by kernel_rfl) w
theorem sz(w:World):((boot_heap w.params).isNs mainGlobals && (#[]:Array GenState).size == 0,(boot_heap w.params).objs.size,(boot_heap w.params).nsMap mainGlobals "__annotations__")=(true,11,ann):=by kernel_rfl
def known(P:Params):List (Addr×Obj):=(aX 1173).zip (objs P)
def YP(w:World)(h:Heap):Prop:=∀a o,(objs w.params)[a]?=some o->h.get? a=some o
theorem akc(w:World)(os:OsState):(staticsOk (importedModules pw.main.body) (boot_heap w.params) (H1 w.params) && namesBound pw (H1 w.params) && gensDone ⟨H1 w.params,#[],{},2017,os⟩ && laidKept (boot_heap w.params) (H1 w.params))=true:=by kernel_rfl
theorem akd(w:World)(os:OsState):openSeen vw loose (importedModules pw.main.body) (λs=>xlAt vw [] s && recOk (gB lw.row.toRowW) s) true ⟨H1 w.params,#[],{},2017,os⟩=openGood vw loose:=by
 rw [PySem.W.Fast.te4187177175401517315];kernel_rfl
def v8:DefRec:=match dA 82 with
|.FunctionDef n a b _ _ _ sc _ _ pos=>⟨n,a,b,sc,pos⟩
|_=>⟨"",⟨[],[],none,[],[],none,[]⟩,[],⟨.module,[],false,false,[]⟩,default⟩
theorem ake:defOf vw lw.row.name=some (v8,[]):=by kernel_rfl
theorem hp:lw.row.prog.theDef lw.row.name=some (v8.params,v8.body,v8.scope):=by kernel_rfl
theorem hkw:kwWritten? v8.params.kwonlyargs v8.params.kw_defaults=some []:=by kernel_rfl
theorem okk:(chainsOk vw && opensWell lw.row.prog && (frees lw.row.toRowW && lw.row.within.isEmpty))=true:=by kernel_rfl
theorem bare:lw.row.prog.bare:=⟨rfl,rfl,rfl,rfl,rfl,by decide +kernel⟩
theorem wit:lw.row.toRowW.promised:=⟨[.list []],by decide +kernel,by decide +kernel⟩
theorem alive(P:Params):(objs P).all (λo=>!o.isFreed)=true:=by kernel_rfl
theorem left:LeftO lw.row.prog vw loose (λs=>xlAt vw [] s && recOk (gB lw.row.toRowW) s) (λs=>s.heap.objs.toList) (λw=>objs w.params) 20000:=
 LeftO.of_pieces (H₀:=λP=>boot_heap P) (H₁:=H1) (gs₀:=#[]) (gs₁:=#[]) (d₀:=boot_drawn) (d₁:={}) (k₀:=boot_toks) (k₁:=2017) (m₀:=11) (ann:=ann) (M:=12+(1+N0))
  opn sz (λw os=>by rw [<-akb];exact aka w os) (by decide +kernel)
  (λw=>funext λos=>congr (congrArg Prod.mk (akc w os)) (congr (congrArg Prod.mk (akd w os)) rfl))
theorem akf{h:Heap}{P:Params}(e:h.objs.toList=objs P){a:Nat}{o:Obj}(ho:(objs P)[a]?=some o):h.get? a=some o:=by
 have h1:h.objs[a]?=some o:=by rw [<-gv,e];exact ho
 have h2:o.isFreed=false:=by
  have:=aI.mp (alive P) o (gp ho)
  simpa using this
 unfold Heap.get?
 rw [h1]
 obtain ⟨c,d,dt,sl⟩:=o
 cases dt<;>first|rfl|(simp [Obj.isFreed] at h2)
theorem head(call:WalkO vw loose (XL vw []) YP lw.row.toRowW v8 [] λf vs=>PySem.call f vs):lw.Holds:=
 holds_law said λakg=>holds_open (r:=lw.row) (q:=vw) (loose:=loose) (Xt:=λs=>xlAt vw [] s && recOk (gB lw.row.toRowW) s) (XP:=XL vw []) (Yf:=λs=>s.heap.objs.toList) (Ya:=λw=>objs w.params) (YP:=YP) (N:=20000)
  left (λw s e a o ho=>akf e ho) (λw h h' Y k a o ho=>k a o (Y a o ho)) (λs e=>xl_of s (iP.mp e).1) XL.keeps ake hp hkw
  (λs e=>recFacts_of (iP.mp e).2) (by decide +kernel) akg okk bare wit call
theorem akh(P:Params):nsFind (match (o3 P).data with|.dict es _=>es|_=>#[]) v8.name=some (.ref 1172):=by kernel_rfl
theorem aki{w:World}{h:Heap}{mg:Str->Option Value}(Y:YP w h)(G:h.Ns mainGlobals mg):mg v8.name=some (.ref 1172):=by
 obtain ⟨o,es,ep,ho,hd,_,hf⟩:=G
 have h3:h.get? 3=some (o3 w.params):=Y 3 _ (by kernel_rfl)
 have e:o=o3 w.params:=ai (ho.symm.trans h3)
 rw [<-hf,<-akh w.params,<-e,hd]
theorem akj(ns:List Int):lw.row.claim.post [ofPy (PyData.list (ns.map PyData.int))] (.bool true) [ofPy (PyData.list (ns.map PyData.int))]=true:=by kernel_rfl
set_option tactic.hygienic true in
theorem main(H:∀(w:World) (s:Shared) (l:Addr) (vs:List Value) (ns:List Int),YP w s.heap->s.gens=#[]->s.heap.IsList l vs.toArray->IntsAre vs ns->ns.length<=63->(PyData.list (ns.map PyData.int)).layable0=true->
  wpAny (model pw w) callerA (PySem.call (.ref 1172) [.ref l]) (λv s'=>v=.bool true/\(∀b o,s.heap.get? b=some o->s'.heap.get? b=some o)/\s'.os=s.os/\s'.gens=#[]) (λJ J=>False) s):lw.Holds:=by
 refine head ?_
 intro w qb s₁ mg mb G Y a o pm cd doc dV kV ho hd LG hD hmg hg args vals as akk hlay hrd LH hlo
 wrow_args akk hlay hrd LH hlo
 have ea:a=1172:=by
  have:=(aki Y G.T.g).symm.trans hmg
  simpa using this.symm
 subst ea
 rename_i ns hs _ hL _ _ _ _ l vs _ hl _ _ _ hI _ hc _
 refine wpAny_mono (H w s₁ l vs ns Y hg hl hI (by omega) hL) (λv s' ⟨e,k,ho,hg'⟩=>?_) λJ J x=>x.elim
 subst e
 exact ⟨.inl ⟨.bool true,.bool true,[],rfl,λJ=>rfl,.bool true,akj ns,λJ=>⟨.nil,λJ h=>nomatch h⟩⟩,.of_keep k,ho,.of_eq hg'⟩
end
set_option backward.match.sparseCases true
section
section
open Internal.X renaming bin->b,no->o,vX->B,sF->h,jm->E,dict->d,list->l,tup->t,uN->L,EW->D,cmp->q,lP->m,call->f,attr->a,take->T,rev->r,item->i
open Internal.X (k v)
open Internal.Xs renaming nil->n,cons->c
open Internal.Ps renaming nil->P,cons->p
open Internal.Tt renaming loc->g,mS->G,nG->U
open Internal.St renaming expr->e,asg->s,uO->H,aug->u,ite->w,qO->V,«for»->F,ret->A,EX->Q,cont->K
open Internal.jn renaming nil->N,cons->C
open Internal.PV renaming str->y,int->j
def Vv:jn:=C (s (G (v 0) mC) (v 1)) (C (s (G (v 0) lK) (v 2)) (C (s (G (v 0) zM) E) (C (s (G (v 0) nF) (k .none)) (C (s (G (v 0) zN) (k (.bool false))) (C (s (G (v 0) zP) (k .none)) N)))))
theorem akl:codeOf tab 35 7=some (0,Vv):=by kernel_rfl
def Vx:jn:=C (e (m (k (.st (.ref 38))) RK (c (v 0) (c (v 1) (c (v 2) n))))) (C (s (G (v 0) nE) (v 3)) (C (s (G (v 0) ry) (v 4)) (C (s (G (v 0) qN) (v 5)) (C (s (G (v 0) zQ) (v 6)) (C (s (G (v 0) qM) E) (C (s (G (v 0) EH) E) (C (s (G (v 0) mz) (l n)) (C (s (G (v 0) sy) (l n)) (C (s (G (v 0) uI) (k .none)) (C (s (G (v 0) kJ) (k .none)) (C (s (G (v 0) ni) (k .none)) N)))))))))))
theorem akm:codeOf tab 216 13=some (0,Vx):=by kernel_rfl
def LJ:jn:=C (A (q .IsNot (a (v 0) uI) (k .none))) N
theorem Vy:codeOf tab 223 4=some (0,LJ):=by kernel_rfl
def Vz:jn:=C (s (G (v 0) nE) (v 1)) (C (s (G (v 0) lK) (v 2)) (C (s (G (v 0) rD) (v 3)) (C (s (G (v 0) yy) (v 4)) (C (s (G (v 0) yv) (v 5)) (C (s (G (v 0) oF) (v 6)) (C (s (G (v 0) uL) (t n)) (C (s (G (v 0) uK) (k .none)) (C (s (G (v 0) uJ) (k .none)) N))))))))
theorem akn:codeOf tab 243 10=some (0,Vz):=by kernel_rfl
def VA:jn:=C (s (g 4) (f (.st (.ref 254)) (c (v 1) (c (v 2) (c (a (v 0) rD) (c (a (v 0) yy) (c (a (v 0) yv) (c (h (q .Is (v 3) (k .none)) (a (v 0) oF) (v 3)) n)))))))) (C (s (G (v 4) uL) (a (v 0) uL)) (C (s (G (v 4) uK) (a (v 0) uK)) (C (s (G (v 4) uJ) (a (v 0) uJ)) (C (A (v 4)) N))))
theorem ako:codeOf tab 251 6=some (1,VA):=by kernel_rfl
def LK:jn:=C (w (q .Is (v 0) (k .none)) (C (A (k (y uM))) N) N) (C (w (f (.st (.builtin "isinstance")) (c (v 0) (c (k (.st (.type "bool"))) n))) (C (A (k (y RP))) N) N) (C (w (f (.st (.builtin "isinstance")) (c (v 0) (c (k (.st (.type "int"))) n))) (C (A (k (y RZ))) N) N) (C (A (h (f (.st (.builtin "isinstance")) (c (v 0) (c (k (.st (.type "str"))) n))) (k (y afS)) (k (y JC)))) N)))
theorem VB:codeOf tab 265 8=some (0,LK):=by kernel_rfl
def VC:jn:=C (s (g 2) (f (.st (.ref 265)) (c (v 0) n))) (C (w (q .NotEq (v 2) (f (.st (.ref 265)) (c (v 1) n))) (C (A (k (.bool false))) N) N) (C (A (h (q .Eq (v 2) (k (y JC))) (q .Eq (a (v 0) mC) (a (v 1) mC)) (q .Eq (v 0) (v 1)))) N))
theorem akp:codeOf tab 272 7=some (1,VC):=by kernel_rfl
def VD:jn:=C (F false (.one 2) (v 0) (C (w (f (.st (.ref 272)) (c (v 2) (c (v 1) n))) (C (A (k (.bool true))) N) N) N)) (C (A (k (.bool false))) N)
theorem akq:codeOf tab 299 5=some (1,VD):=by kernel_rfl
def yM:jn:=C (H [g 1,g 2,g 3] (t (c (l n) (c E (c (l (c (t (c (v 0) (c (k (.bool false)) n))) n)) n))))) (C (V (v 3) (C (H [g 4,g 5] (m (v 3) Sv n)) (C (w (v 5) (C (e (m (v 1) sC (c (v 4) n))) N) (C (w (q .NotIn (a (v 4) mC) (v 2)) (C (s (U (v 2) (a (v 4) mC)) (k (.bool true))) (C (e (m (v 3) vO (c (L (t (c (v 7) (c (k (.bool false)) n))) (.one 7) (a (v 4) mz) n [] [6,7]) n))) (C (e (m (v 3) sC (c (t (c (v 4) (c (k (.bool true)) n))) n))) (C (e (m (v 3) vO (c (L (t (c (v 7) (c (k (.bool false)) n))) (.one 7) (a (v 4) sy) n [] [6,7]) n))) N)))) N) N)) N))) (C (A (v 1)) N))
theorem akr:codeOf tab 304 13=some (5,yM):=by kernel_rfl
def VF:jn:=C (A (D (a (v 2) mC) (k (.bool true)) (.one 2) (v 0) n [] [1,2])) N
theorem aks:codeOf tab 309 4=some (0,VF):=by kernel_rfl
def FE:jn:=C (w (B true (q .Eq (a (v 0) sy) (l n)) (q .Eq (a (v 0) mz) (l n))) (C (A (b .Add (l (c (v 0) n)) (v 1))) N) N) (C (H [g 2,g 3,g 4] (t (c (f (.st (.ref 309)) (c (v 1) n)) (c (l n) (c (k (.bool true)) n))))) (C (F false (.one 5) (f (.st (.ref 304)) (c (v 0) n)) (C (s (g 4) (B true (v 4) (o (f (.st (.ref 272)) (c (v 5) (c (v 0) n)))))) (C (w (B false (v 4) (q .NotIn (a (v 5) mC) (v 2))) (C (e (m (v 3) sC (c (v 5) n))) N) N) N))) (C (s (g 6) (f (.st (.ref 309)) (c (v 3) n))) (C (A (b .Add (v 3) (L (v 8) (.one 8) (v 1) (c (q .NotIn (a (v 8) mC) (v 6)) n) [6] [7,8]))) N))))
theorem akt:codeOf tab 314 11=some (5,FE):=by kernel_rfl
def Ah:jn:=C (s (g 2) (l n)) (C (V (B true (q .IsNot (v 1) (k .none)) (B false (q .Is (a (v 1) ni) (k .none)) (q .NotEq (i (a (v 1) ni) (k (j 0))) (a (v 0) sE)))) (C (e (m (v 2) sC (c (v 1) n))) (C (s (g 1) (a (v 1) qN)) N))) (C (s (g 3) (h (q .Is (v 1) (k .none)) (l n) (i (a (v 1) ni) (k (j 1))))) (C (F true (.one 4) (v 2) (C (s (g 3) (f (.st (.ref 314)) (c (v 4) (c (v 3) n)))) (C (s (G (v 4) ni) (t (c (a (v 0) sE) (c (v 3) n)))) N))) (C (A (v 3)) N))))
theorem aku:codeOf tab 321 9=some (3,Ah):=by kernel_rfl
def VG:jn:=C (w (B false (q .In (v 1) (k (.tup [.str tX,.str RX,.str Si,.str Sz]))) (B true (q .Eq (a (v 0) kJ) (k (y j0))) (q .In (v 1) (k (.tup [.str t4,.str Sw,.str pn,.str Sx,.str Sf,.str RQ,.str SN,.str EL,.str Se,.str RN,.str EC,.str jW,.str RL]))))) (C (A (k (y nj))) N) N) (C (A (k (y kh))) N)
theorem akv:codeOf tab 342 7=some (0,VG):=by kernel_rfl
def LM:jn:=C (s (g 3) (m (m (a (v 0) vV) nP (c (a (v 1) kJ) (c E n))) nP (c (v 2) n))) (C (w (q .IsNot (v 3) (k .none)) (C (s (g 4) (h (f (.st (.builtin "isinstance")) (c (v 3) (c (k (.st (.type "str"))) n))) (k (y afP)) (k (y kJ)))) (C (A (f (.st (.ref 333)) (c (v 2) (c (v 1) (c (v 4) (c (k .none) (c (v 3) (c (f (.st (.ref 342)) (c (v 1) (c (v 2) n))) n)))))))) N)) N) (C (s (g 5) (m (m (a (v 0) vW) nP (c (a (v 1) kJ) (c E n))) nP (c (v 2) n))) (C (w (q .Is (v 5) (k .none)) (C (A (k .none)) N) N) (C (s (g 6) (m (v 0) EP (c (v 5) n))) (C (V (q .Eq (a (v 6) vQ) (k (y afR))) (C (s (g 6) (i (i (a (v 6) Sq) (k (j 0))) (k (j 0)))) N)) (C (H [g 7,g 8,g 9,g 10] (a (v 6) Sq)) (C (A (f (.st (.ref 333)) (c (v 8) (c (v 1) (c (k (y sD)) (c (v 9) (c (v 10) (c (f (.st (.ref 342)) (c (v 1) (c (v 2) n))) n)))))))) N)))))))
theorem VH:codeOf tab 349 11=some (8,LM):=by kernel_rfl
def VJ:jn:=C (s (g 3) (m (a (v 1) qM) nP (c (v 2) n))) (C (w (B true (q .Is (v 3) (k .none)) (q .IsNot (a (v 1) kJ) (k .none))) (C (s (g 3) (f (.st (.ref 349)) (c (v 0) (c (v 1) (c (v 2) n))))) (C (w (q .IsNot (v 3) (k .none)) (C (s (U (a (v 1) qM) (v 2)) (v 3)) N) N) N)) N) (C (A (h (B false (q .Is (v 3) (k .none)) (q .Eq (a (v 3) rD) (k (y EI)))) (k .none) (v 3))) N))
theorem akw:codeOf tab 356 9=some (1,VJ):=by kernel_rfl
def VK:jn:=C (s (g 3) (k .none)) (C (F false (.one 4) (v 1) (C (s (g 5) (f (.st (.ref 356)) (c (v 0) (c (v 4) (c (v 2) n))))) (C (w (q .Is (v 5) (k .none)) (C K N) N) (C (w (q .NotEq (a (v 5) rD) (k (y ly))) (C (A (h (q .Eq (a (v 5) rD) (k (y m8))) (k .none) (h (q .Is (v 3) (k .none)) (v 5) (f (.st (.ref 405)) (c (v 5) (c (v 3) n)))))) N) N) (C (s (g 3) (h (q .Is (v 3) (k .none)) (a (v 5) oF) (v 3))) N))))) (C (A (k .none)) N))
theorem akx:codeOf tab 363 11=some (3,VK):=by kernel_rfl
noncomputable def VL:jn:=C (A (f (.st (.ref 363)) (c (v 0) (c (f (.st (.ref 321)) (c (v 0) (c (v 1) n))) (c (v 2) n))))) N
theorem aky:codeOf tab 370 4=some (0,VL):=by kernel_rfl
def VM:jn:=C (u (v 0) sE (k (j 1))) N
theorem akz:codeOf tab 377 2=some (0,VM):=by kernel_rfl
def VN:jn:=C (w (B false (q .Is (v 1) (k .none)) (f (.st (.builtin "isinstance")) (c (v 1) (c (k (.st (.type "bool"))) n)))) (C (A (m (v 0) vM (c (v 1) n))) N) N) (C (w (o (f (.st (.builtin "isinstance")) (c (v 1) (c (k (.st (.ref 38))) n)))) (C (e (m (v 0) afQ (c (k (y RJ)) (c (k (y afO)) n)))) N) N) (C (H [g 2,g 3] (t (c (l n) (c (v 1) n)))) (C (V (B true (q .IsNot (v 3) (k .none)) (q .Is (a (v 3) nF) (k .none))) (C (e (m (v 2) sC (c (v 3) n))) (C (s (g 3) (f (.st (.ref 391)) (c (v 3) n))) N))) (C (F true (.one 3) (v 2) (C (e (f (.st (.ref 398)) (c (v 0) (c (v 3) n)))) N)) (C (A (a (v 1) nF)) N)))))
theorem akA:codeOf tab 384 9=some (2,VN):=by kernel_rfl
def VP:jn:=C (A (h (B true (f (.st (.builtin "isinstance")) (c (v 0) (c (k (.st (.ref 226))) n))) (a (v 0) ry)) (a (v 0) qN) (k .none))) N
theorem akB:codeOf tab 391 6=some (0,VP):=by kernel_rfl
def VQ:jn:=C (s (g 2) (f (.st (.ref 391)) (c (v 1) n))) (C (s (g 3) (h (q .Is (v 2) (k .none)) (m (v 0) vM (c (v 1) n)) (a (v 2) nF))) (C (s (G (v 1) nF) (m (v 0) yw (c (k .none) (c (k (.bool true)) (c (v 3) (c (k .none) (c (v 1) n))))))) (C (w (B true (f (.st (.builtin "isinstance")) (c (v 1) (c (k (.st (.ref 226))) n))) (B true (q .IsNot (a (v 1) kJ) (k .none)) (o (m (v 1) vP n)))) (C (s (G (a (v 1) nF) kJ) (b .Add (a (v 1) kJ) (k (y Jr)))) N) N) (C (e (f (.st (.ref 377)) (c (v 0) n))) N))))
theorem akC:codeOf tab 398 9=some (2,VQ):=by kernel_rfl
def VS:jn:=C (A (m (v 0) EK (c (a (v 0) nE) (c (a (v 0) lK) (c (v 1) n))))) N
theorem akD:codeOf tab 405 4=some (0,VS):=by kernel_rfl
def VW:jn:=C (A (f (.st (.ref 299)) (c (f (.st (.ref 321)) (c (v 0) (c (m (v 0) rz (c (v 1) n)) n))) (c (v 2) n)))) N
theorem akE:codeOf tab 412 5=some (0,VW):=by kernel_rfl
def VX:jn:=C (s (g 4) (f (.st (.ref 370)) (c (v 0) (c (m (v 0) rz (c (v 1) n)) (c (v 2) n))))) (C (A (B true (q .IsNot (v 4) (k .none)) (B false (v 3) (q .Eq (a (v 4) oF) (k (y kh)))))) N)
theorem akF:codeOf tab 419 7=some (1,VX):=by kernel_rfl
def VY:jn:=C (s (g 4) (f (.st (.ref 370)) (c (v 0) (c (m (v 0) rz (c (v 2) n)) (c (v 3) n))))) (C (w (B false (q .Is (v 4) (k .none)) (q .NotEq (a (v 4) oF) (k (y lO)))) (C (A (B true (q .IsNot (v 4) (k .none)) (q .Eq (a (v 4) oF) (k (y kh))))) N) N) (C (A (f (.st (.ref 412)) (c (v 0) (c (v 1) (c (h (a (a (v 4) lK) ry) (m (v 0) t5 (c (a (v 4) lK) n)) (a (v 4) lK)) n))))) N))
theorem akG:codeOf tab 426 9=some (1,VY):=by kernel_rfl
def VZ:jn:=C (s (G (v 0) yz) (v 1)) (C (s (G (v 0) RV) (v 2)) (C (s (G (v 0) EF) (v 3)) (C (s (G (v 0) EG) (v 4)) (C (s (G (v 0) mC) (v 5)) (C (s (G (v 0) uL) (v 6)) (C (s (G (v 0) uK) (v 7)) (C (s (G (v 0) rD) (v 8)) (C (s (G (v 0) Sb) (v 9)) (C (s (G (v 0) oF) (k (y kh))) (C (s (G (v 0) EQ) (h (q .Eq (v 8) (k (y EJ))) (k .none) (v 0))) N))))))))))
theorem akH:codeOf tab 441 15=some (0,VZ):=by kernel_rfl
def V0:jn:=C (s (G (v 0) uJ) (v 1)) (C (s (G (v 0) Ss) (v 2)) (C (s (G (v 0) ER) (v 3)) (C (s (G (v 0) EQ) (v 4)) (C (s (G (v 0) kQ) (v 5)) (C (s (G (v 0) mC) (k .none)) (C (s (G (v 0) EL) (k .none)) (C (s (G (v 0) SQ) (k .none)) (C (s (G (v 0) EE) (k .none)) (C (s (G (v 0) zO) (k .none)) (C (s (G (v 0) SM) (k .none)) (C (s (G (v 0) oF) (k (y kh))) N)))))))))))
theorem akI:codeOf tab 469 13=some (0,V0):=by kernel_rfl
def V3:jn:=C (s (G (v 0) Sy) (v 1)) (C (s (G (v 0) nE) (v 2)) (C (s (G (v 0) EF) (v 3)) (C (s (G (v 0) EG) (v 4)) (C (s (G (v 0) vQ) (v 5)) (C (s (G (v 0) EE) (v 6)) (C (s (G (v 0) zO) (v 7)) (C (s (G (v 0) Sd) (k (.bool false))) N)))))))
theorem akJ:codeOf tab 505 9=some (0,V3):=by kernel_rfl
def V4:jn:=C (w (B false (q .NotIn (a (v 2) vQ) (t (c (k (y kQ)) (c (k (y zR)) n)))) (q .Eq (a (v 3) oF) (k (y kh)))) (C (A (k (.bool false))) N) N) (C (w (B false (q .Eq (a (v 3) oF) (k (y nj))) (B false (q .Eq (a (v 2) vQ) (k (y zR))) (q .Is (v 1) (k .none)))) (C (A (k (.bool true))) N) N) (C (s (g 4) (h (a (a (v 3) lK) ry) (m (a (v 0) yC) t5 (c (a (v 3) lK) n)) (a (v 3) lK))) (C (A (o (f (.st (.ref 412)) (c (a (v 0) yC) (c (a (a (v 1) kQ) yz) (c (v 4) n)))))) N)))
theorem akK:codeOf tab 526 9=some (1,V4):=by kernel_rfl
def V5:jn:=C (s (G (v 0) Sj) (v 1)) (C (s (G (v 0) zQ) (v 2)) (C (s (G (v 0) kQ) (v 3)) N))
theorem akL:codeOf tab 609 4=some (0,V5):=by kernel_rfl
def V6:jn:=C (s (G (v 0) vQ) (v 1)) (C (s (G (v 0) Sn) (v 2)) (C (s (G (v 0) zL) (v 3)) (C (s (G (v 0) mC) (v 4)) (C (s (G (v 0) SJ) (k (j 0))) (C (s (G (v 0) zO) (l n)) (C (s (G (v 0) ni) (k .none)) N))))))
theorem akM:codeOf tab 652 8=some (0,V6):=by kernel_rfl
def V7:jn:=C (s (G (v 0) yC) (v 1)) (C (s (G (v 0) SK) (v 2)) (C (s (G (v 0) RT) (v 3)) (C (s (G (v 0) ER) (l n)) (C (s (G (v 0) SR) (k .none)) (C (s (G (v 0) RW) (k .none)) N)))))
theorem akN:codeOf tab 673 7=some (0,V7):=by kernel_rfl
def LN:jn:=C (w (q .Is (v 3) (k .none)) (C (A (k (y pZ))) N) N) (C (w (B false (q .NotEq (v 4) (k (y kQ))) (q .Eq (a (v 3) oF) (k (y kh)))) (C (A (k .none)) N) N) (C (w (B true (q .Eq (a (v 3) oF) (k (y lO))) (q .IsNot (a (v 1) zL) (k .none))) (C (s (g 5) (h (a (a (v 3) lK) ry) (m (v 0) t5 (c (a (v 3) lK) n)) (a (v 3) lK))) (C (A (h (f (.st (.ref 412)) (c (v 0) (c (a (a (a (v 1) zL) kQ) yz) (c (v 5) n)))) (k .none) (k (y lO)))) N)) N) (C (A (a (v 3) oF)) N)))
theorem V8:codeOf tab 765 12=some (1,LN):=by kernel_rfl
def V9:jn:=C (s (G (v 0) vV) (v 1)) (C (s (G (v 0) vW) (h (q .Is (v 2) (k .none)) E (v 2))) (C (s (G (v 0) EP) (v 3)) (C (s (G (v 0) Jy) (v 4)) (C (s (G (v 0) JB) (k (j 0))) (C (s (G (v 0) BZ) (k (j 0))) (C (s (G (v 0) Jw) (k (j 8))) (C (s (G (v 0) JA) E) (C (s (G (v 0) tZ) E) (C (s (G (v 0) sE) (k (j 0))) (C (s (G (v 0) Js) (k (j 0))) (C (s (G (v 0) Ju) E) (C (s (G (v 0) Jz) (l n)) (C (s (G (v 0) Jv) (k .none)) (C (s (G (v 0) BX) (k (.bool false))) (C (s (G (v 0) Jx) (f (.st (.ref 38)) (c (m (v 0) mC n) (c (m (v 0) oZ (c (k (y kE)) n)) n)))) (C (s (G (v 0) BX) (k (.bool true))) (C (F false (.one 5) (f (.st (.type "list")) (c (a (v 0) tZ) n)) (C (e (m (v 0) Jt (c (v 5) n))) N)) N)))))))))))))))))
theorem akO:codeOf tab 793 21=some (1,V9):=by kernel_rfl
def Wa:jn:=C (u (v 0) BZ (k (j 1))) (C (A (a (v 0) BZ)) N)
theorem akP:codeOf tab 814 4=some (0,Wa):=by kernel_rfl
def LP:jn:=C (s (g 2) (m (a (v 0) tZ) nP (c (v 1) n))) (C (A (h (q .Is (v 2) (k .none)) (m (v 0) Sh (c (v 1) n)) (v 2))) N)
theorem Wb:codeOf tab 835 6=some (1,LP):=by kernel_rfl
def Wc:jn:=C (s (g 2) (q .NotIn (v 1) (k (.tup [.str j0,.str qo,.str zK])))) (C (s (g 3) (f (.st (.ref 226)) (c (m (v 0) mC n) (c (k .none) (c (v 1) (c (v 2) n)))))) (C (s (U (a (v 0) tZ) (v 1)) (v 3)) (C (s (G (v 3) kJ) (v 1)) (C (s (g 4) (i (k (.st (.ref 767))) (v 1))) (C (s (G (v 3) qN) (h (q .Is (v 4) (k .none)) (k .none) (m (v 0) oZ (c (v 4) n)))) (C (s (G (v 3) lK) (m (v 0) oZ (c (h (v 2) (k (y jE)) (k (y lJ))) n))) (C (s (G (v 3) mz) (L (m (v 0) oZ (c (v 6) n)) (.one 6) (m (k (.st (.ref 770))) nP (c (v 1) (c (t n) n))) n [0] [5,6])) (C (w (a (v 0) BX) (C (e (m (v 0) Jt (c (v 1) n))) N) N) (C (A (v 3)) N)))))))))
theorem akQ:codeOf tab 840 12=some (3,Wc):=by kernel_rfl
def Wf:jn:=C (w (B false (q .In (b .Add (v 1) (k (y Jr))) (a (v 0) vV)) (q .In (b .Add (v 1) (k (y Jr))) (a (v 0) vW))) (C (e (f (.st (.ref 384)) (c (v 0) (c (i (a (v 0) tZ) (v 1)) n)))) N) N) N
theorem akR:codeOf tab 847 6=some (0,Wf):=by kernel_rfl
def Wg:jn:=C (s (g 6) (m (v 0) oZ (c (h (v 2) (k (y jE)) (k (y lJ))) n))) (C (w (B true (v 2) (q .Is (v 3) (k .none))) (C (s (g 3) (m (v 0) oZ (c (k (y kE)) n))) N) N) (C (s (g 7) (h (B false (q .Is (v 4) (k .none)) (f (.st (.ref 272)) (c (v 4) (c (m (v 0) oZ (c (k (y kE)) n)) n)))) (k .none) (v 4))) (C (s (g 8) (f (.st (.ref 226)) (c (m (v 0) mC n) (c (v 6) (c (v 1) (c (v 2) (c (v 3) (c (v 7) n)))))))) (C (s (G (v 8) uI) (v 5)) (C (A (v 8)) N)))))
theorem akS:codeOf tab 855 9=some (3,Wg):=by kernel_rfl
def LQ:jn:=C (w (q .Is (v 1) (k .none)) (C (A (m (v 0) oZ (c (k (y jX)) n))) N) N) (C (w (f (.st (.builtin "isinstance")) (c (v 1) (c (k (.st (.type "bool"))) n))) (C (A (m (v 0) oZ (c (h (v 1) (k (y RH)) (k (y Rv))) n))) N) N) (C (w (f (.st (.builtin "isinstance")) (c (v 1) (c (k (.st (.type "int"))) n))) (C (A (m (v 0) oZ (c (k (y jW)) n))) N) N) (C (A (h (f (.st (.builtin "isinstance")) (c (v 1) (c (k (.st (.type "str"))) n))) (m (v 0) oZ (c (k (y Jq)) n)) (a (v 1) lK))) N)))
theorem Wh:codeOf tab 862 8=some (0,LQ):=by kernel_rfl
def Wi:jn:=C (w (o (f (.st (.builtin "isinstance")) (c (v 1) (c (k (.st (.ref 38))) n)))) (C (A (m (v 0) vM (c (v 1) n))) N) N) (C (w (q .IsNot (a (v 1) nF) (k .none)) (C (A (a (v 1) nF)) N) N) (C (A (h (f (.st (.builtin "isinstance")) (c (v 1) (c (k (.st (.ref 226))) n))) (m (v 0) yx (c (v 1) n)) (a (v 1) lK))) N))
theorem akT:codeOf tab 869 7=some (0,Wi):=by kernel_rfl
def Ai:jn:=C (s (g 2) (h (B true (a (v 1) ry) (o (m (v 1) vP n))) (a (v 1) qN) (k .none))) (C (V (q .IsNot (v 2) (k .none)) (C (w (q .IsNot (a (v 2) nF) (k .none)) (C (A (a (v 2) nF)) N) N) (C (s (g 2) (a (v 2) qN)) N))) (C (A (a (v 1) lK)) N))
theorem akU:codeOf tab 876 7=some (1,Ai):=by kernel_rfl
def FG:jn:=C (V (m (v 1) vP n) (C (s (g 1) (a (v 1) qN)) N)) (C (A (v 1)) N)
theorem akV:codeOf tab 890 4=some (0,FG):=by kernel_rfl
def Wj:jn:=C (A (d (p (k (y mL)) (k .none) (p (k (y kE)) (k (y mL)) (p (k (y lJ)) (k (y kE)) (p (k (y jE)) (k (y lJ)) (p (k (y qt)) (k (y kE)) (p (k (y jW)) (k (y qt)) (p (k (y jX)) (k (y kE)) (p (k (y j0)) (k .none) (p (k (y qo)) (k .none) (p (k (y jG)) (k (y kE)) (p (k (y ju)) (k (y jG)) (p (k (y lB)) (k (y jG)) (p (k (y jN)) (k .none) (p (k (y lg)) (k .none) P)))))))))))))))) N
theorem akW:codeOf tab 1065 3=some (0,Wj):=by kernel_rfl
def Wk:jn:=C (A (d (p (k (y kE)) (l (c (k (y j0)) n)) (p (k (y qt)) (l (c (k (y qo)) n)) P)))) N
theorem akX:codeOf tab 1072 4=some (0,Wk):=by kernel_rfl
def Wl:jn:=C (A (d (p (k (y j6)) (k (y ju)) (p (k (y lu)) (k (y jE)) (p (k (y jT)) (k (y jE)) (p (k (y m7)) (k (y lJ)) P)))))) N
theorem akY:codeOf tab 1079 3=some (0,Wl):=by kernel_rfl
def Wm:jn:=C (A (l (c (k (y lN)) (c (k (y qu)) (c (k (y pn)) (c (k (y pY)) (c (k (y ju)) (c (k (y jG)) (c (k (y lB)) (c (k (y jN)) (c (k (y tW)) (c (k (y uM)) (c (k (y mL)) n))))))))))))) N
theorem akZ:codeOf tab 1086 3=some (0,Wm):=by kernel_rfl
def Wn:jn:=C (A (d (p (k (y lN)) (l (c (k (y j6)) (c (k (y ju)) n))) (p (k (y qu)) (l (c (k (y ju)) n)) (p (k (y pn)) (l (c (k (y jG)) n)) (p (k (y pY)) (l (c (k (y lB)) n)) (p (k (y ju)) (l (c (k (y lu)) (c (k (y jT)) (c (k (y jE)) n)))) (p (k (y jG)) (l (c (k (y jT)) (c (k (y jE)) n))) (p (k (y lB)) (l (c (k (y jT)) (c (k (y jE)) n))) (p (k (y jN)) (l (c (k (y m7)) (c (k (y lJ)) n))) (p (k (y tW)) (l (c (k (y jW)) n)) (p (k (y uM)) (l (c (k (y jX)) n)) (p (k (y mL)) (l (c (k (y mw)) (c (k (y jE)) n))) P))))))))))))) N
theorem ak0:codeOf tab 1093 4=some (0,Wn):=by kernel_rfl
def Wo:jn:=C (A (d (p (k (y j6)) (l (c (k (y pn)) (c (k (y pY)) (c (k (y lN)) (c (k (y qu)) n))))) (p (k (y jT)) (l (c (k (y lB)) (c (k (y jN)) (c (k (y mL)) (c (k (y lN)) n))))) (p (k (y lu)) (l (c (k (y lB)) (c (k (y jN)) (c (k (y mL)) (c (k (y lN)) n))))) (p (k (y m7)) (l (c (k (y ju)) (c (k (y jN)) (c (k (y lN)) (c (k (y tW)) n))))) P)))))) N
theorem ak1:codeOf tab 1100 4=some (0,Wo):=by kernel_rfl
def Wq:jn:=C (H [g 1,g 2] (t (c (k (j 0)) (c (k (j 29)) n)))) (C (F false (.one 3) (T (v 0) (k (j 30))) (C (s (g 2) (b .Mod (b .Add (b .Add (b .Mult (v 2) (k (j 7727))) (b .Mult (v 3) (k (j 31)))) (k (j 5))) (k (j 1000003)))) (C (w (B true (q .Eq (v 1) (k (j 0))) (q .GtE (f (.st (.builtin "abs")) (c (v 3) n)) (b .Pow (k (j 10)) (k (j 18))))) (C (s (g 1) (b .Mod (f (.st (.builtin "abs")) (c (v 3) n)) (b .Pow (k (j 10)) (k (j 120))))) N) N) N))) (C (A (l (c (v 1) (c (v 2) (c (k (j 0)) n))))) N))
theorem ak2:codeOf tab 1107 9=some (3,Wq):=by kernel_rfl
noncomputable def Wr:jn:=C (w (q .Gt (i (v 0) (k (j 0))) (k (j 0))) (C (s (g 2) (b .Mod (i (v 0) (k (j 0))) (v 1))) (C (s (U (v 0) (k (j 0))) (b .FloorDiv (i (v 0) (k (j 0))) (v 1))) (C (A (v 2)) N))) N) (C (s (U (v 0) (k (j 2))) (b .Add (i (v 0) (k (j 2))) (k (j 1)))) (C (s (g 3) (b .Mod (b .Add (i (v 0) (k (j 1))) (b .Mult (b .Mult (k (j 7919)) (i (v 0) (k (j 2)))) (i (v 0) (k (j 2))))) (k (j 1000003)))) (C (A (b .Mod (b .FloorDiv (b .Mod (b .Mult (v 3) (v 3)) (k (j 999983))) (k (j 7))) (v 1))) N)))
theorem ak3:codeOf tab 1114 9=some (2,Wr):=by kernel_rfl
def sO:jn:=C (H [g 2,g 3] (t (c (i (v 1) (k (y pH))) (c (l n) n)))) (C (w (q .Gt (f (.st (.ref 1114)) (c (v 0) (c (k (j 4)) n))) (k (j 0))) (C (s (U (v 2) (k (y j6))) (k (y ju))) (C (e (m (v 3) sC (c (k (y j6)) n))) N)) N) (C (s (g 4) (i (l (c (k (y ju)) (c (k (y jG)) (c (k (y jN)) (c (k (y kg)) n))))) (f (.st (.ref 1114)) (c (v 0) (c (k (j 4)) n))))) (C (w (q .In (v 4) (l (c (k (y ju)) (c (k (y jG)) n)))) (C (e (m (v 2) JD (c (d (p (k (y mw)) (k (y jE)) (p (k (y mR)) (k (y mw)) (p (k (y jT)) (k (y mR)) P)))) n))) (C (e (m (v 3) sC (c (k (y jT)) n))) N)) N) (C (w (q .Eq (v 4) (k (y ju))) (C (s (U (v 2) (k (y lu))) (k (y jT))) (C (e (m (v 3) sC (c (k (y lu)) n))) N)) N) (C (w (q .Eq (v 4) (k (y jN))) (C (s (U (v 2) (k (y m7))) (k (y lJ))) (C (e (m (v 3) sC (c (k (y m7)) n))) N)) N) (C (A (b .Add (v 3) (l (c (k (y jN)) (c (k (y ju)) (c (k (y jG)) (c (k (y lg)) (c (k (y lB)) (c (k (y kE)) (c (k (y j0)) (c (k (y jW)) (c (k (y jX)) n)))))))))))) N))))))
theorem ak4:codeOf tab 1121 10=some (3,sO):=by kernel_rfl
def CC:jn:=C (F false (.one 2) (f (.st (.type "range")) (c (b .Add (k (j 1)) (f (.st (.ref 1114)) (c (v 0) (c (k (j 3)) n)))) n)) (C (H [g 3,g 4] (t (c (i (k (y Ry)) (v 2)) (c (i (l (c (k (y mz)) (c (k (y pI)) n))) (f (.st (.ref 1114)) (c (v 0) (c (k (j 2)) n)))) n)))) (C (s (g 5) (b .Add (b .Add (l (c (k (y ju)) (c (k (y jG)) (c (k (y lB)) n)))) (b .Mult (l (c (k (y jN)) n)) (f (.st (.type "int")) (c (q .Eq (v 3) (k (y lg))) n)))) (L (v 9) (.one 9) (l (c (k (y j6)) (c (k (y lu)) (c (k (y jT)) n)))) (c (q .In (v 9) (i (v 1) (k (y pH)))) n) [1] [8,9]))) (C (s (g 6) (i (v 5) (f (.st (.ref 1114)) (c (v 0) (c (f (.st (.builtin "len")) (c (v 5) n)) n))))) (C (s (g 7) (m (i (v 1) (v 4)) nP (c (v 6) (c (l n) n)))) (C (w (q .NotIn (v 3) (v 7)) (C (s (U (i (v 1) (v 4)) (v 6)) (b .Add (v 7) (l (c (v 3) n)))) N) N) N)))))) N
theorem ak5:codeOf tab 1126 10=some (6,CC):=by kernel_rfl
def qR:jn:=C (s (g 3) (i (v 1) (k (y m9)))) (C (F false (.one 4) (f (.st (.type "range")) (c (f (.st (.ref 1114)) (c (v 0) (c (v 2) n))) n)) (C (H [g 5,g 6] (t (c (i (v 3) (f (.st (.ref 1114)) (c (v 0) (c (f (.st (.builtin "len")) (c (v 3) n)) n)))) (c (f (.st (.ref 1114)) (c (v 0) (c (k (j 8)) n))) n)))) (C (H [g 7,g 8] (t (c (i (l (c (k (y lO)) (c (k (y kh)) (c (k (y nj)) n)))) (f (.st (.ref 1114)) (c (v 0) (c (k (j 3)) n)))) (c (v 5) n)))) (C (w (q .Eq (f (.st (.ref 1114)) (c (v 0) (c (k (j 4)) n))) (k (j 0))) (C (s (g 8) (i (v 3) (f (.st (.ref 1114)) (c (v 0) (c (f (.st (.builtin "len")) (c (v 3) n)) n))))) N) N) (C (s (g 9) (h (q .Eq (v 6) (k (j 5))) (k (y m8)) (h (q .Gt (v 6) (k (j 5))) (k (y ly)) (k (y sD))))) (C (s (U (i (v 1) (k (y nQ))) (v 5)) (t (c (v 9) (c (h (q .Eq (v 9) (k (y m8))) (k (y kh)) (v 7)) (c (v 8) n))))) N)))))) (C (s (g 10) (h (q .Eq (v 2) (k (j 2))) (k (j 0)) (i (l (c (k (j 0)) (c (k (j 0)) (c (k (j 0)) (c (k (j 1)) (c (k (j 2)) (c (k (j 3)) n))))))) (f (.st (.ref 1114)) (c (v 0) (c (k (j 6)) n)))))) (C (s (U (v 1) (k (y mO))) (i (v 3) (v 10))) (C (s (g 7) (i (l (c (k (y lO)) (c (k (y lO)) (c (k (y lO)) (c (k (y nj)) n))))) (f (.st (.ref 1114)) (c (v 0) (c (k (j 4)) n))))) (C (s (U (i (v 1) (k (y nQ))) (i (v 1) (k (y mO)))) (t (c (k (y sD)) (c (v 7) (c (i (v 1) (k (y mO))) n))))) N)))))
theorem ak6:codeOf tab 1133 12=some (8,qR):=by kernel_rfl
def yN:jn:=C (s (g 2) (i (l (c (k (y B6)) (c (k (y t4)) (c (k (y tX)) n)))) (f (.st (.ref 1114)) (c (v 0) (c (k (j 3)) n))))) (C (s (g 3) (i (l (c (k (y kg)) (c (k (y j0)) (c (k (y jW)) (c (k (y jX)) n))))) (f (.st (.ref 1114)) (c (v 0) (c (k (j 4)) n))))) (C (s (g 4) (d (p (k (y pH)) (f (.st (.type "dict")) (c (f (.st (.ref 1065)) n) n)) (p (k (y pI)) E (p (k (y mz)) E (p (k (y nQ)) E (p (k (y nE)) (v 2) (p (k (y kJ)) (v 3) P)))))))) (C (w (q .NotEq (v 3) (k (y kg))) (C (s (g 5) (B false (q .Eq (v 2) (k (y tX))) (B true (q .Eq (v 2) (k (y t4))) (q .Eq (v 3) (k (y j0)))))) (C (s (U (i (v 4) (k (y nQ))) (v 3)) (t (c (k (y kJ)) (c (h (v 5) (k (y nj)) (k (y kh))) (c (v 3) n))))) N)) N) (C (s (U (v 4) (k (y m9))) (f (.st (.ref 1121)) (c (v 0) (c (v 4) n)))) (C (e (f (.st (.ref 1126)) (c (v 0) (c (v 4) n)))) (C (e (f (.st (.ref 1133)) (c (v 0) (c (v 4) (c (v 1) n))))) (C (A (v 4)) N)))))))
theorem ak7:codeOf tab 1140 10=some (4,yN):=by kernel_rfl
def pO:jn:=C (H [g 2,g 3,g 4] (t (c E (c (d (p (k (y tW)) (k (j 5)) (p (k (y uM)) (k .none) (p (k (y mL)) (m (v 0) oZ (c (k (y mL)) n)) P)))) (c (i (v 1) (k (y nE))) n))))) (C (F false (.one 5) (l (c (k (y kE)) (c (k (y j0)) (c (k (y jW)) (c (k (y jX)) n))))) (C (s (U (v 2) (v 5)) (m (v 0) oZ (c (v 5) n))) N)) (C (s (U (v 2) (k (y jG))) (m (v 0) yw (c (k (y jG)) (c (k (.bool true)) n)))) (C (s (U (v 2) (k (y ju))) (m (v 0) yw (c (k (y ju)) (c (k (.bool true)) (c (i (v 2) (k (y jG))) n))))) (C (s (U (v 2) (k (y lB))) (m (v 0) yw (c (k (y lB)) (c (k (.bool true)) (c (i (v 2) (k (y jG))) n))))) (C (H [U (v 2) (k (y jN)),U (v 2) (k (y lg))] (t (c (m (v 0) yw (c (k (y jN)) (c (k (.bool false)) n))) (c (m (v 0) yw (c (k (y lg)) (c (k (.bool false)) n))) n)))) (C (F false (.many [6,5]) (l (c (t (c (k (y lN)) (c (k (y ju)) n))) (c (t (c (k (y qu)) (c (k (y ju)) n))) (c (t (c (k (y pn)) (c (k (y jG)) n))) (c (t (c (k (y pY)) (c (k (y lB)) n))) n))))) (C (s (U (v 3) (v 6)) (f (.st (.ref 38)) (c (m (v 0) mC n) (c (i (v 2) (v 5)) n)))) N)) (C (F false (.one 5) (l (c (k (y ju)) (c (k (y jG)) (c (k (y lB)) (c (k (y jN)) n))))) (C (s (U (v 3) (v 5)) (i (v 2) (v 5))) N)) (C (F false (.one 5) (l (c (k (y lN)) (c (k (y ju)) (c (k (y jG)) (c (k (y jN)) n))))) (C (w (q .In (b .Add (v 5) (k (y RM))) (i (v 1) (k (y pH)))) (C (s (U (v 2) (b .Add (v 5) (k (y RM)))) (f (.st (.ref 384)) (c (v 0) (c (i (v 3) (v 5)) n)))) N) N) N)) (C (F false (.one 7) (i (v 1) (k (y pI))) (C (e (m (a (i (v 2) (v 7)) sy) vO (c (L (i (v 2) (v 13)) (.one 13) (i (i (v 1) (k (y pI))) (v 7)) n [2] [12,13]) n))) N)) (C (F false (.one 7) (i (v 1) (k (y mz))) (C (e (m (a (i (v 2) (v 7)) mz) vO (c (L (i (v 2) (v 13)) (.one 13) (i (i (v 1) (k (y mz))) (v 7)) n [2] [12,13]) n))) N)) (C (F false (.one 8) (i (v 1) (k (y nQ))) (C (H [g 9,g 10,g 11] (i (i (v 1) (k (y nQ))) (v 8))) (C (w (q .NotEq (v 9) (k (y kJ))) (C (s (U (a (i (v 2) (v 8)) qM) (v 4)) (f (.st (.ref 254)) (c (v 4) (c (i (v 2) (v 11)) (c (v 9) (c (k .none) (c (k .none) (c (v 10) n)))))))) N) N) N))) (C (A (t (c (v 2) (c (v 3) n)))) N))))))))))))
theorem ak8:codeOf tab 1145 18=some (10,pO):=by kernel_rfl
def Ws:jn:=C (s (g 2) (l n)) (C (F false (.one 3) (r (m (i (v 0) (k (y pI))) nP (c (v 1) (c (l n) n)))) (C (e (m (v 2) vO (c (f (.st (.ref 1152)) (c (v 0) (c (v 3) n))) n))) N)) (C (e (m (v 2) sC (c (v 1) n))) (C (F false (.one 3) (r (m (i (v 0) (k (y mz))) nP (c (v 1) (c (m (f (.st (.ref 1072)) n) nP (c (v 1) (c (l n) n))) n)))) (C (e (m (v 2) vO (c (f (.st (.ref 1152)) (c (v 0) (c (v 3) n))) n))) N)) (C (A (v 2)) N))))
theorem ak9:codeOf tab 1152 9=some (2,Ws):=by kernel_rfl
def FH:jn:=C (H [g 2,g 3] (t (c E (c (k (j 0)) n)))) (C (V (q .IsNot (v 1) (k .none)) (C (s (g 4) (f (.st (.ref 1152)) (c (v 0) (c (v 1) n)))) (C (F false (.one 5) (f (.st (.type "range")) (c (f (.st (.builtin "len")) (c (v 4) n)) n)) (C (s (g 6) (i (v 4) (v 5))) (C (w (B true (q .Eq (m (v 4) BV (c (v 6) n)) (v 5)) (B false (q .NotIn (v 6) (v 2)) (o (i (i (v 2) (v 6)) (k (j 2)))))) (C (s (U (v 2) (v 6)) (t (c (v 3) (c (v 5) (c (q .Lt (v 5) (m (v 4) BV (c (v 1) n))) n))))) N) N) N))) (C (H [g 1,g 3] (t (c (i (i (v 0) (k (y pH))) (v 1)) (c (b .Add (v 3) (k (j 1))) n)))) N)))) (C (A (L (v 9) (.many [8,9]) (f (.st (.builtin "sorted")) (c (L (t (c (i (v 2) (v 8)) (c (v 8) n))) (.one 8) (v 2) n [2] [7,8]) n)) n [] [7,8,9])) N))
theorem ala:codeOf tab 1157 13=some (5,FH):=by kernel_rfl
def Wu:jn:=C (s (g 2) (L (i (i (v 0) (k (y nQ))) (v 6)) (.one 6) (v 1) (c (q .In (v 6) (i (v 0) (k (y nQ)))) n) [0] [5,6])) (C (s (g 3) (L (v 6) (.one 6) (v 2) (c (q .NotEq (i (v 6) (k (j 0))) (k (y ly))) n) [] [5,6])) (C (w (B false (q .Eq (v 3) (l n)) (q .Eq (i (i (v 3) (k (j 0))) (k (j 0))) (k (y m8)))) (C (A (k .none)) N) N) (C (s (g 4) (b .Add (L (i (v 6) (k (j 1))) (.one 6) (T (v 2) (m (v 2) BV (c (i (v 3) (k (j 0))) n))) n [] [5,6]) (l (c (i (i (v 3) (k (j 0))) (k (j 1))) n)))) (C (A (t (c (i (v 4) (k (j 0))) (c (i (i (v 3) (k (j 0))) (k (j 2))) n)))) N))))
theorem alb:codeOf tab 1162 10=some (3,Wu):=by kernel_rfl
def xB:jn:=C (H [g 5,g 6,g 7,g 8] (t (c (i (v 3) (k (j 0))) (c (i (v 4) (k (j 0))) (c (i (v 1) (k (y nE))) (c (f (.st (.ref 1162)) (c (v 1) (c (i (v 4) (k (j 1))) n))) n)))))) (C (H [g 9,g 10] (t (c (f (.st (.ref 370)) (c (v 0) (c (m (v 0) rz (c (v 6) n)) (c (v 7) n)))) (c (f (.st (.ref 451)) (c (v 5) (c (k .none) (c (l n) (c (k .none) (c (k (j 0)) (c (t n) (c (k .none) (c (k (y EJ)) n))))))))) n)))) (C (H [g 11,g 12,g 13] (t (c (f (.st (.ref 633)) (c E (c (k .none) (c (v 10) n)))) (c (f (.st (.ref 486)) (c (k .none) (c (k (j 0)) (c (l n) (c (k .none) (c (v 10) n)))))) (c (f (.st (.ref 754)) (c (v 0) (c E (c (t n) n)))) n))))) (C (w (q .Is (v 8) (k .none)) (C (s (g 15) (L (t (c (v 27) (c (f (.st (.ref 655)) (c (k (y SD)) (c (t (c (v 6) (c (v 7) (c (l n) (c (k .none) (c (v 27) n)))))) (c (v 11) n)))) n))) (.one 27) (l (c (k (y kQ)) (c (k (y pJ)) (c (k (y pK)) n)))) n [11,7,6] [26,27])) (C (w (B false (q .IsNot (v 9) (k .none)) (q .NotEq (L (f (.st (.ref 765)) (c (v 0) (c (v 28) (c (v 6) (c (k .none) (c (v 27) n)))))) (.many [27,28]) (v 15) n [6,0] [26,27,28]) (b .Mult (l (c (k (y pZ)) n)) (k (j 3))))) (C (A (k (.bool false))) N) N) (C (A (q .Eq (l (c (f (.st (.ref 426)) (c (v 0) (c (v 5) (c (v 6) (c (v 7) n))))) (c (f (.st (.ref 419)) (c (v 0) (c (v 6) (c (v 7) (c (k (.bool true)) n))))) (c (f (.st (.ref 419)) (c (v 0) (c (v 6) (c (v 7) (c (k (.bool false)) n))))) n)))) (b .Mult (l (c (k (.bool false)) n)) (k (j 3))))) N))) N) (C (H [g 16,g 17] (v 8)) (C (w (B false (q .Is (v 9) (k .none)) (B false (q .NotEq (a (v 9) oF) (v 16)) (q .NotEq (a (a (v 9) lK) mC) (a (i (v 2) (v 17)) mC)))) (C (A (k (.bool false))) N) N) (C (s (g 18) (q .Eq (v 16) (k (y kh)))) (C (s (g 19) (B false (v 18) (B true (q .Eq (v 16) (k (y lO))) (q .In (m (f (.st (.ref 1079)) n) nP (c (v 17) (c (v 17) n))) (i (v 3) (k (j 1))))))) (C (s (g 20) (l (c (t (c (k (y kQ)) (c (v 11) (c (k (y kQ)) (c (v 12) (c (v 19) n)))))) (c (t (c (k (y pJ)) (c (v 11) (c (k (y pJ)) (c (v 12) (c (k (.bool true)) n)))))) (c (t (c (k (y pK)) (c (v 11) (c (k (y pK)) (c (v 12) (c (k (.bool true)) n)))))) n))))) (C (s (g 20) (b .Add (v 20) (l (c (t (c (k (y kQ)) (c (k .none) (c (k (y zR)) (c (v 12) (c (v 18) n)))))) (c (t (c (k (y kQ)) (c (k .none) (c (k (y kQ)) (c (k .none) (c (v 18) n)))))) n))))) (C (F false (.many [14,21,22,23,24]) (v 20) (C (s (g 25) (f (.st (.ref 765)) (c (v 0) (c (f (.st (.ref 655)) (c (k (y SD)) (c (t (c (v 6) (c (v 7) (c (l n) (c (k .none) (c (v 14) n)))))) (c (v 21) n)))) (c (v 6) (c (v 9) (c (v 14) n))))))) (C (w (B false (q .NotEq (v 25) (h (v 24) (k .none) (v 16))) (q .Eq (f (.st (.ref 526)) (c (v 13) (c (v 23) (c (f (.st (.ref 515)) (c (v 6) (c (v 7) (c (l n) (c (k .none) (c (v 22) n)))))) (c (v 9) n))))) (v 24))) (C (A (k (.bool false))) N) N) N))) (C (s (g 25) (l (c (f (.st (.ref 426)) (c (v 0) (c (v 5) (c (v 6) (c (v 7) n))))) (c (f (.st (.ref 419)) (c (v 0) (c (v 6) (c (v 7) (c (k (.bool true)) n))))) (c (f (.st (.ref 419)) (c (v 0) (c (v 6) (c (v 7) (c (k (.bool false)) n))))) n))))) (C (A (q .Eq (v 25) (l (c (v 19) (c (k (.bool true)) (c (v 18) n)))))) N))))))))))))
theorem alc:codeOf tab 1167 19=some (21,xB):=by kernel_rfl
def pP:jn:=C (H [g 1,g 2] (t (c (f (.st (.ref 1107)) (c (v 0) n)) (c (q .Lt (f (.st (.builtin "len")) (c (v 0) n)) (k (j 2))) n)))) (C (s (g 3) (f (.st (.ref 1140)) (c (v 1) (c (h (v 2) (k (j 2)) (k (j 5))) n)))) (C (s (g 4) (f (.st (.ref 1054)) (c (h (q .NotEq (i (v 3) (k (y kJ))) (k (y kg))) (d (p (i (v 3) (k (y kJ))) (d (p (i (v 3) (k (y nE))) (t (c (k .none) (c (k (j 0)) (c (k (j 0)) n)))) P)) P)) E) n))) (C (H [g 5,g 6] (f (.st (.ref 1145)) (c (v 4) (c (v 3) n)))) (C (H [g 7,g 8] (t (c E (c (i (v 3) (k (y mO))) n)))) (C (F false (.one 9) (f (.st (.ref 1086)) n) (C (s (g 10) (i (L (v 17) (.one 17) (i (f (.st (.ref 1093)) n) (v 9)) (c (q .In (v 17) (i (v 3) (k (y pH)))) n) [3] [16,17]) (k (j 0)))) (C (s (U (v 7) (v 9)) (f (.st (.ref 1157)) (c (v 3) (c (v 10) n)))) N))) (C (s (g 11) (L (v 17) (.one 17) (f (.st (.ref 1086)) n) (c (q .In (v 8) (i (v 7) (v 17))) n) [8,7] [16,17])) (C (F false (.one 12) (f (.st (.type "range")) (c (h (v 2) (k (j 2)) (b .Add (k (j 6)) (f (.st (.ref 1114)) (c (v 1) (c (k (j 5)) n))))) n)) (C (s (g 13) (h (B true (q .NotEq (v 11) (l n)) (q .Eq (b .Mod (v 12) (k (j 2))) (k (j 0)))) (v 11) (f (.st (.ref 1086)) n))) (C (s (g 14) (i (v 13) (f (.st (.ref 1114)) (c (v 1) (c (f (.st (.builtin "len")) (c (v 13) n)) n))))) (C (s (g 13) (h (q .Eq (b .Mod (v 12) (k (j 2))) (k (j 0))) (m (f (.st (.ref 1100)) n) nP (c (v 8) (c (f (.st (.ref 1086)) n) n))) (f (.st (.ref 1086)) n))) (C (s (g 15) (i (v 13) (f (.st (.ref 1114)) (c (v 1) (c (f (.st (.builtin "len")) (c (v 13) n)) n))))) (C (w (o (f (.st (.ref 1167)) (c (v 4) (c (v 3) (c (v 5) (c (t (c (i (v 6) (v 15)) (c (i (v 7) (v 15)) n))) (c (t (c (i (v 6) (v 14)) (c (i (v 7) (v 14)) n))) n))))))) (C (A (k (.bool false))) N) N) N)))))) (C (A (k (.bool true))) N))))))))
theorem ald:codeOf tab 1172 19=some (15,pP):=by kernel_rfl
end
end
section
variable{t it:X}{tg:Tg}{i u r' i' k K nn N j c c' nr ub al u9:Nat}{v p ps sc:PV}{vs l l':List PV}{nm g n h:Str}{as:Xs}{ls:List Nat}{iY η ji jh:AH}{a0 a1 a2 a3 a4 a5 a6 a7 a8 a9 mG oQ oR nU oJ o9 uT xC Aj p0 p1 p2 p3 p4 p5 p8 qS qT rG p6 p7 ue p9:Option PV}{P:QP}{e:Sl}{y:Int}{T:Tab}{o o':AO}{fs lb D:List (Str×PV)}{ss:jn}{bs:List Addr}{TI:Sl->AH->(Bool->AH->Prop)->Prop}{EM:Sl->AH->(AH->Prop)->Prop}{C:Cfg}{B:Bk}{tiny hk:Bool}{fl ml:Rows}{hl:pB}{L:List AO}
set_option backward.match.sparseCases false
section
abbrev QS:=Fl->Sl->AH->Prop
noncomputable abbrev QP:=PV->AH->Prop
@[reducible] noncomputable def FI(k:Nat)(r:jn)(w:Nat)(Q:QS):QS:=λf e η=>match f with
 |.next=>WS k r w e η Q
 |.cont=>Q .cont e η
 |.ret v=>Q (.ret v) e η
@[reducible] noncomputable def Wv(e:Sl)(Q:QS):QP:=λv η=>v=.none/\Q .next e η
@[reducible] noncomputable def Ww(k:Nat)(t:Tt)(e:Sl)(Q:QS):QP:=λv η=>Wt k t v e η (Q .next)
@[reducible] noncomputable def ale(k:Nat)(t:List Tt)(e:Sl)(Q:QS):QP:=λv η=>∃l,v=.tup l/\l.length=t.length/\t6 k t l e η (Q .next)
@[reducible] def Wx(k:Nat)(a b:jn)(w:Nat)(e:Sl)(Q:QS):QP:=λu η=>∃c,mP u η=some c/\(c=true->WS k a w e η Q)/\(c=false->WS k b w e η Q)
@[reducible] def KFor(k:Nat)(rv:Bool)(tg:Tg)(b:jn)(w:Nat)(e:Sl)(Q:QS):QP:=λv η=>∃S,ro rv v η=some S/\oO (λe η Q=>WS k b w e η Q) tg S (S.len η+1) 0 e η Q
@[reducible] noncomputable def Wy(e:Sl)(Q:QS):QP:=λv η=>Q (.ret v) e η
@[reducible] def KAt(a:Str)(v:PV)(e:Sl)(Q:Sl->AH->Prop):QP:=λov η=>∃iY,sf tab ov a v η=some iY/\Q e iY
@[reducible] def alf(v:PV)(ov:PV)(e:Sl)(Q:Sl->AH->Prop):QP:=λkv η=>∃iY,mV ov kv v η=some iY/\Q e iY
@[reducible] def KIt(k:Nat)(i:X)(v:PV)(e:Sl)(Q:Sl->AH->Prop):QP:=λov η=>W k i e η (alf v ov e Q)
@[reducible] def KTs(k:Nat)(ts:List Tt)(vs:List PV)(Q:Sl->AH->Prop):Sl->AH->Prop:=λe η=>t6 k ts vs e η Q
@[reducible] def LR(v:PV)(Q:List PV->AH->Prop):List PV->AH->Prop:=λvs η=>Q (v::vs) η
@[reducible] noncomputable def KL(k:Nat)(r:Xs)(e:Sl)(Q:List PV->AH->Prop):QP:=λv η=>WL k r e η (LR v Q)
@[reducible] def KP2(k:Nat)(r:Ps)(e:Sl)(acc:List (Str×PV))(x:Str)(Q:List (Str×PV)->AH->Prop):QP:=λv η=>WP k r e η (jz acc x v) Q
@[reducible] def KP(k:Nat)(b:X)(r:Ps)(e:Sl)(acc:List (Str×PV))(Q:List (Str×PV)->AH->Prop):QP:=λkv η=>∃x,kv=.str x/\W k b e η (KP2 k r e acc x Q)
@[reducible] def KT(k:Nat)(r:Xs)(e:Sl)(Q:Bool->AH->Prop):QP:=λu η=>∃b,mP u η=some b/\(b=true->TL k r e η Q)/\(b=false->Q false η)
@[reducible] def KB2(op:Operator)(x:PV)(Q:QP):QP:=λy η=>∃v iY,qK op x y η=some (v,iY)/\Q v iY
@[reducible] def KB(k:Nat)(op:Operator)(b:X)(e:Sl)(Q:QP):QP:=λx η=>W k b e η (KB2 op x Q)
@[reducible] def KNo(Q:QP):QP:=λx η=>∃b,mP x η=some b/\Q (.bool (!b)) η
@[reducible] def alg(k:Nat)(c:Bool)(b:X)(e:Sl)(Q:QP):QP:=λx η=>∃t,mP x η=some t/\(t=c->W k b e η Q)/\(t=!c->Q x η)
@[reducible] def alh(k:Nat)(a b:X)(e:Sl)(Q:QP):QP:=λu η=>∃c,mP u η=some c/\(c=true->W k a e η Q)/\(c=false->W k b e η Q)
@[reducible] def Wz(Q:QP):List (Str×PV)->AH->Prop:=λl η=>Q (.ref η.reg η.iZ) (η.add (.sd l 0))
@[reducible] def ali(Q:QP):List PV->AH->Prop:=λvs η=>kB vs.length=true/\Q (.ref η.reg η.iZ) (η.add (.list vs))
@[reducible] def alj(Q:QP):List PV->AH->Prop:=λvs η=>kB vs.length=true/\Q (.tup vs) η
@[reducible] def WC(op:CmpOp)(x:PV)(Q:QP):QP:=λy η=>∃c,mQ op x y η=some c/\Q (.bool c) η
@[reducible] def KC(k:Nat)(op:CmpOp)(b:X)(e:Sl)(Q:QP):QP:=λx η=>W k b e η (WC op x Q)
@[reducible] def KM2(k:Nat)(m:MS)(nm:Str)(Q:QP):List PV->AH->Prop:=λvs η=>WM k m nm vs η Q
@[reducible] def KM(k:Nat)(nm:Str)(as:Xs)(e:Sl)(Q:QP):QP:=λov η=>∃m,pg tab ov nm η=some m/\WL k as e η (KM2 k m nm Q)
@[reducible] def alk(k:Nat)(f:PV)(Q:QP):List PV->AH->Prop:=λvs η=>jb k f vs η Q
@[reducible] def WD(a:Str)(Q:QP):QP:=λov η=>∃v,jV tab ov a η=some v/\Q v η
@[reducible] def alm(ov:PV)(Q:QP):QP:=λkv η=>∃v iY,En ov kv η=some (v,iY)/\Q v iY
@[reducible] def KTk(k:Nat)(x:X)(e:Sl)(Q:QP):QP:=λov η=>W k x e η (alm ov Q)
@[reducible] def aln(Q:QP):QP:=λov η=>∃v iY,IV ov η=some (v,iY)/\Q v iY
@[reducible] def WG(ov:PV)(Q:QP):QP:=λkv η=>∃v,jD tab ov kv η=some v/\Q v η
@[reducible] def KI(k:Nat)(i:X)(e:Sl)(Q:QP):QP:=λov η=>W k i e η (WG ov Q)
section
variable{w:Nat}
theorem apl{Q:QS}(h:Q .next e η):WS k .nil w e η Q:=h
theorem apm{s:St}{r:jn}{Q:QS}(h:W1 k s w e η (FI k r w Q)):WS k (.cons s r) w e η Q:=h
theorem apn{x:X}{Q:QS}(h:W k x e η (Wv e Q)):W1 k (.expr x) w e η Q:=h
theorem apo{t:Tt}{x:X}{Q:QS}(h:W k x e η (Ww k t e Q)):W1 k (.asg t x) w e η Q:=h
theorem apq{t:List Tt}{x:X}{Q:QS}(h:W k x e η (ale k t e Q)):W1 k (.uO t x) w e η Q:=h
theorem apr{a b:jn}{Q:QS}(h:W k t e η (Wx k a b w e Q)):W1 k (.ite t a b) w e η Q:=h
theorem aps{rv:Bool}{b:jn}{Q:QS}(h:W k it e η (KFor k rv tg b w e Q)):W1 k (.for rv tg it b) w e η Q:=h
theorem apt{b:jn}{Q:QS}(h:qv (λe η Q=>W k t e η Q) (λe η Q=>WS k b 0 e η Q) w e η Q):W1 k (.qO t b) w e η Q:=h
theorem apu{x:X}{Q:QS}(h:W k x e η (Wy e Q)):W1 k (.ret x) w e η Q:=h
theorem apv{Q:QS}(h:Q .cont e η):W1 k .cont w e η Q:=h
theorem apw{Q:Sl->AH->Prop}(h:Q (put e i (some v)) η):Wt k (.loc i) v e η Q:=h
theorem apx{o:X}{a:Str}{Q:Sl->AH->Prop}(h:W k o e η (KAt a v e Q)):Wt k (.mS o a) v e η Q:=h
theorem apy{o i:X}{Q:Sl->AH->Prop}(h:W k o e η (KIt k i v e Q)):Wt k (.nG o i) v e η Q:=h
theorem apz{Q:Sl->AH->Prop}(h:Q e η):t6 k [] [] e η Q:=h
theorem apA{t:Tt}{ts:List Tt}{Q:Sl->AH->Prop}(h:Wt k t v e η (KTs k ts vs Q)):t6 k (t::ts) (v::vs) e η Q:=h
theorem apB{Q:List PV->AH->Prop}(h:Q [] η):WL k .nil e η Q:=h
theorem apC{x:X}{r:Xs}{Q:List PV->AH->Prop}(h:W k x e η (KL k r e Q)):WL k (.cons x r) e η Q:=h
theorem apD{acc:List (Str×PV)}{Q:List (Str×PV)->AH->Prop}(h:Q acc η):WP k .nil e η acc Q:=h
theorem apE{a b:X}{r:Ps}{acc:List (Str×PV)}{Q:List (Str×PV)->AH->Prop}(h:W k a e η (KP k b r e acc Q)):WP k (.cons a b r) e η acc Q:=h
theorem apF{Q:Bool->AH->Prop}(h:Q true η):TL k .nil e η Q:=h
theorem apG{x:X}{r:Xs}{Q:Bool->AH->Prop}(h:W k x e η (KT k r e Q)):TL k (.cons x r) e η Q:=h
variable{Q:QP}
theorem w_k(h:Q v η):W k (.k v) e η Q:=h
theorem pQ(h:look e i=some v)(q:Q v η):W k (.v i) e η Q:=⟨v,h,q⟩
theorem apH{op:Operator}{a b:X}(h:W k a e η (KB k op b e Q)):W k (.bin op a b) e η Q:=h
theorem apI{a:X}(h:W k a e η (KNo Q)):W k (.no a) e η Q:=h
theorem apJ{c:Bool}{a b:X}(h:W k a e η (alg k c b e Q)):W k (.vX c a b) e η Q:=h
theorem apK{a b:X}(h:W k t e η (alh k a b e Q)):W k (.sF t a b) e η Q:=h
theorem apL(h:Q (.ref η.reg η.iZ) (η.add .jm)):W k .jm e η Q:=h
theorem w_dict{ps:Ps}(h:WP k ps e η [] (Wz Q)):W k (.dict ps) e η Q:=h
theorem apM{es:Xs}(h:WL k es e η (ali Q)):W k (.list es) e η Q:=h
theorem apN{es:Xs}(h:WL k es e η (alj Q)):W k (.tup es) e η Q:=h
theorem apO{op:CmpOp}{a b:X}(h:W k a e η (KC k op b e Q)):W k (.cmp op a b) e η Q:=h
theorem apP{o:X}(h:W k o e η (KM k nm as e Q)):W k (.lP o nm as) e η Q:=h
theorem w_call{f:PV}(h:WL k as e η (alk k f Q)):W k (.call f as) e η Q:=h
theorem apQ{o:X}{a:Str}(h:W k o e η (WD a Q)):W k (.attr o a) e η Q:=h
theorem apR{o x:X}(h:W k o e η (KTk k x e Q)):W k (.take o x) e η Q:=h
theorem w_rev{o:X}(h:W k o e η (aln Q)):W k (.rev o) e η Q:=h
theorem apS{o i:X}(h:W k o e η (KI k i e Q)):W k (.item o i) e η Q:=h
theorem rH{elt:X}{ifs:Xs}{fr:List Nat}(h:W k it e η λiv η=>∃S,tG iv η=some S/\allB e fr=true/\o5 (TL k ifs) (λe' iY Q'=>W k elt e' iY λv kR=>∃jl,wL η.reg η.iZ v kR=some jl/\Q' jl) tg S (S.len η+1) 0 (clear e ls) (η.add (.list [])) (λiY=>Q (.ref η.reg η.iZ) iY)):W k (.uN elt tg it ifs fr ls) e η Q:=h
theorem alo{key val:X}{ifs:Xs}{fr:List Nat}(h:W k it e η λiv η=>∃S,tG iv η=some S/\allB e fr=true/\o5 (TL k ifs) (λe' iY Q'=>W k key e' iY λkv kR=>W k val e' kR λv jl=>yi (jl.get η.reg η.iZ)=true/\∃jH,mV (.ref η.reg η.iZ) kv v jl=some jH/\Q' jH) tg S (S.len η+1) 0 (clear e ls) (η.add .jm) (λiY=>Q (.ref η.reg η.iZ) iY)):W k (.EW key val tg it ifs fr ls) e η Q:=h
theorem apT{f:Addr}{o:PV}(h:jb k (.st (.ref f)) (o::vs) η Q):WM k (.fn f (some o)) nm vs η Q:=h
theorem qA{r:Nat}(h:tP tab (.lst r i) nm vs η=some (v,iY))(q:Q v iY):WM k (.lst r i) nm vs η Q:=⟨v,iY,h,q⟩
theorem nV{r:Nat}(h:tP tab (.dct r i) nm vs η=some (v,iY))(q:Q v iY):WM k (.dct r i) nm vs η Q:=⟨v,iY,h,q⟩
end
theorem qB(u v:Option PV)(r:Sl):put (u::r) 0 v=v::r:=rfl
theorem qC(u v:Option PV)(r:Sl)(i:Nat):put (u::r) (i+1) v=u::put r i v:=rfl
section
variable{r:Sl}{Q:Sl->AH->Prop}
theorem apU{x:Option PV}(h:let e':Sl:=a0::some v::r;Q e' η):Wt k (.loc 1) v (a0::x::r) η Q:=h
theorem apV{x:Option PV}(h:let e':Sl:=a0::a1::some v::r;Q e' η):Wt k (.loc 2) v (a0::a1::x::r) η Q:=h
theorem apW{x:Option PV}(h:let e':Sl:=a0::a1::a2::some v::r;Q e' η):Wt k (.loc 3) v (a0::a1::a2::x::r) η Q:=h
theorem apX{x:Option PV}(h:let e':Sl:=a0::a1::a2::a3::some v::r;Q e' η):Wt k (.loc 4) v (a0::a1::a2::a3::x::r) η Q:=h
theorem apY{x:Option PV}(h:let e':Sl:=a0::a1::a2::a3::a4::some v::r;Q e' η):Wt k (.loc 5) v (a0::a1::a2::a3::a4::x::r) η Q:=h
theorem apZ{x:Option PV}(h:let e':Sl:=a0::a1::a2::a3::a4::a5::some v::r;Q e' η):Wt k (.loc 6) v (a0::a1::a2::a3::a4::a5::x::r) η Q:=h
theorem ap0{x:Option PV}(h:let e':Sl:=a0::a1::a2::a3::a4::a5::a6::some v::r;Q e' η):Wt k (.loc 7) v (a0::a1::a2::a3::a4::a5::a6::x::r) η Q:=h
theorem ap1{x:Option PV}(h:let e':Sl:=a0::a1::a2::a3::a4::a5::a6::a7::some v::r;Q e' η):Wt k (.loc 8) v (a0::a1::a2::a3::a4::a5::a6::a7::x::r) η Q:=h
theorem ap2{x:Option PV}(h:let e':Sl:=a0::a1::a2::a3::a4::a5::a6::a7::a8::some v::r;Q e' η):Wt k (.loc 9) v (a0::a1::a2::a3::a4::a5::a6::a7::a8::x::r) η Q:=h
theorem ap3{x:Option PV}(h:let e':Sl:=a0::a1::a2::a3::a4::a5::a6::a7::a8::a9::some v::r;Q e' η):Wt k (.loc 10) v (a0::a1::a2::a3::a4::a5::a6::a7::a8::a9::x::r) η Q:=h
theorem ap4{x:Option PV}(h:let e':Sl:=a0::a1::a2::a3::a4::a5::a6::a7::a8::a9::mG::some v::r;Q e' η):Wt k (.loc 11) v (a0::a1::a2::a3::a4::a5::a6::a7::a8::a9::mG::x::r) η Q:=h
theorem ap5{x:Option PV}(h:let e':Sl:=a0::a1::a2::a3::a4::a5::a6::a7::a8::a9::mG::oQ::some v::r;Q e' η):Wt k (.loc 12) v (a0::a1::a2::a3::a4::a5::a6::a7::a8::a9::mG::oQ::x::r) η Q:=h
theorem ap6{x:Option PV}(h:let e':Sl:=a0::a1::a2::a3::a4::a5::a6::a7::a8::a9::mG::oQ::oR::some v::r;Q e' η):Wt k (.loc 13) v (a0::a1::a2::a3::a4::a5::a6::a7::a8::a9::mG::oQ::oR::x::r) η Q:=h
theorem ap7{x:Option PV}(h:let e':Sl:=a0::a1::a2::a3::a4::a5::a6::a7::a8::a9::mG::oQ::oR::nU::some v::r;Q e' η):Wt k (.loc 14) v (a0::a1::a2::a3::a4::a5::a6::a7::a8::a9::mG::oQ::oR::nU::x::r) η Q:=h
theorem ap8{x:Option PV}(h:let e':Sl:=a0::a1::a2::a3::a4::a5::a6::a7::a8::a9::mG::oQ::oR::nU::oJ::some v::r;Q e' η):Wt k (.loc 15) v (a0::a1::a2::a3::a4::a5::a6::a7::a8::a9::mG::oQ::oR::nU::oJ::x::r) η Q:=h
theorem ap9{x:Option PV}(h:let e':Sl:=a0::a1::a2::a3::a4::a5::a6::a7::a8::a9::mG::oQ::oR::nU::oJ::o9::some v::r;Q e' η):Wt k (.loc 16) v (a0::a1::a2::a3::a4::a5::a6::a7::a8::a9::mG::oQ::oR::nU::oJ::o9::x::r) η Q:=h
theorem aqa{x:Option PV}(h:let e':Sl:=a0::a1::a2::a3::a4::a5::a6::a7::a8::a9::mG::oQ::oR::nU::oJ::o9::uT::some v::r;Q e' η):Wt k (.loc 17) v (a0::a1::a2::a3::a4::a5::a6::a7::a8::a9::mG::oQ::oR::nU::oJ::o9::uT::x::r) η Q:=h
theorem aqb{x:Option PV}(h:let e':Sl:=a0::a1::a2::a3::a4::a5::a6::a7::a8::a9::mG::oQ::oR::nU::oJ::o9::uT::xC::some v::r;Q e' η):Wt k (.loc 18) v (a0::a1::a2::a3::a4::a5::a6::a7::a8::a9::mG::oQ::oR::nU::oJ::o9::uT::xC::x::r) η Q:=h
theorem aqc{x:Option PV}(h:let e':Sl:=a0::a1::a2::a3::a4::a5::a6::a7::a8::a9::mG::oQ::oR::nU::oJ::o9::uT::xC::Aj::some v::r;Q e' η):Wt k (.loc 19) v (a0::a1::a2::a3::a4::a5::a6::a7::a8::a9::mG::oQ::oR::nU::oJ::o9::uT::xC::Aj::x::r) η Q:=h
theorem aqd{CD x:Option PV}(h:let e':Sl:=a0::a1::a2::a3::a4::a5::a6::a7::a8::a9::mG::oQ::oR::nU::oJ::o9::uT::xC::Aj::CD::some v::r;Q e' η):Wt k (.loc 20) v (a0::a1::a2::a3::a4::a5::a6::a7::a8::a9::mG::oQ::oR::nU::oJ::o9::uT::xC::Aj::CD::x::r) η Q:=h
theorem aqe{CD WH WK WN WO WQ x:Option PV}(h:let e':Sl:=a0::a1::a2::a3::a4::a5::a6::a7::a8::a9::mG::oQ::oR::nU::oJ::o9::uT::xC::Aj::CD::WH::WK::WN::WO::WQ::some v::r;Q e' η):Wt k (.loc 25) v (a0::a1::a2::a3::a4::a5::a6::a7::a8::a9::mG::oQ::oR::nU::oJ::o9::uT::xC::Aj::CD::WH::WK::WN::WO::WQ::x::r) η Q:=h
end
section
variable{w:Nat}
theorem aqf{t:Tt}{x:X}{r:jn}{Q:QS}(h:W k x e η (Ww k t e (FI k r w Q))):WS k (.cons (.asg t x) r) w e η Q:=h
theorem aqg{a b r:jn}{Q:QS}(h:W k t e η (Wx k a b w e (FI k r w Q))):WS k (.cons (.ite t a b) r) w e η Q:=h
theorem aqh{x:X}{r:jn}{Q:QS}(h:W k x e η (Wy e Q)):WS k (.cons (.ret x) r) w e η Q:=h
theorem aqi{x:X}{r:jn}{Q:QS}(h:W k x e η (Wv e (FI k r w Q))):WS k (.cons (.expr x) r) w e η Q:=h
theorem aqj{r:Xs}{Q:List PV->AH->Prop}(h:look e i=some v)(q:WL k r e η (LR v Q)):WL k (.cons (.v i) r) e η Q:=⟨v,h,q⟩
theorem aqk{Q:List PV->AH->Prop}(h:look e i=some v)(q:Q [v] η):WL k (.cons (.v i) .nil) e η Q:=⟨v,h,q⟩
theorem aql{r:Xs}{Q:List PV->AH->Prop}(q:WL k r e η (LR v Q)):WL k (.cons (.k v) r) e η Q:=q
theorem aqm{Q:List PV->AH->Prop}(q:Q [v] η):WL k (.cons (.k v) .nil) e η Q:=q
theorem aqn{o:PV}{a:Str}{Q:QP}(h:look e i=some o)(q:WD a Q o η):W k (.attr (.v i) a) e η Q:=⟨o,h,q⟩
theorem aqo{o:PV}{Q:QP}(h:look e i=some o)(q:KM k nm as e Q o η):W k (.lP (.v i) nm as) e η Q:=⟨o,h,q⟩
theorem aqp{o c:PV}{Q:QP}(h:look e i=some o)(q:WG o Q c η):W k (.item (.v i) (.k c)) e η Q:=⟨o,h,q⟩
theorem aqq{op:CmpOp}{o c:PV}{Q:QP}(h:look e i=some o)(q:WC op o Q c η):W k (.cmp op (.v i) (.k c)) e η Q:=⟨o,h,q⟩
end
section
variable{f:PV}{Q:QP}{x:PV}{α:Type}{F:α->PV}
theorem jb.same(h:jb k f vs η λv iY=>v=x/\iY=η)(q:Q x η):jb k f vs η Q:=h.mono λ_ _ ⟨a,b⟩=>a▸b▸q
theorem jb.is1(h:jb k f vs η λv iY=>v=x/\P v iY)(m:∀iY,P x iY->Q x iY):jb k f vs η Q:=h.mono λ_ _ ⟨a,b⟩=>by subst a;exact m _ b
theorem jb.mW{R:QP}(h:jb k f vs η λv iY=>v=x/\P v iY/\R v iY)(m:∀iY,P x iY->R x iY->Q x iY):jb k f vs η Q:=h.mono λ_ _ ⟨a,b,c⟩=>by subst a;exact m _ b c
theorem jb.is3{R S:QP}(h:jb k f vs η λv iY=>v=x/\P v iY/\R v iY/\S v iY)(m:∀iY,P x iY->R x iY->S x iY->Q x iY):jb k f vs η Q:=h.mono λ_ _ ⟨a,b,c,d⟩=>by subst a;exact m _ b c d
theorem jb.Ak{R:QP}(h:jb k f vs η λv iY=>P v iY/\R v iY)(m:∀v iY,P v iY->R v iY->Q v iY):jb k f vs η Q:=h.mono λ_ _ ⟨b,c⟩=>m _ _ b c
theorem jb.pe{R S:QP}(h:jb k f vs η λv iY=>P v iY/\R v iY/\S v iY)(m:∀v iY,P v iY->R v iY->S v iY->Q v iY):jb k f vs η Q:=h.mono λ_ _ ⟨b,c,d⟩=>m _ _ b c d
theorem jb.WR{P R:α->QP}(h:jb k f vs η λv iY=>∃j,v=F j/\P j v iY/\R j v iY)(m:∀j iY,P j (F j) iY->R j (F j) iY->Q (F j) iY):jb k f vs η Q:=h.mono λ_ _ ⟨j,a,b,c⟩=>by subst a;exact m _ _ b c
theorem jb.WT{P R S:α->QP}(h:jb k f vs η λv iY=>∃j,v=F j/\P j v iY/\R j v iY/\S j v iY)(m:∀j iY,P j (F j) iY->R j (F j) iY->S j (F j) iY->Q (F j) iY):jb k f vs η Q:=h.mono λ_ _ ⟨j,a,b,c,d⟩=>by subst a;exact m _ _ b c d
end
theorem xD{t:Sl->AH->(PV->AH->Prop)->Prop}{B:Sl->AH->(Fl->Sl->AH->Prop)->Prop}{w:Nat}{Q:Fl->Sl->AH->Prop}(h:t e η λu η=>∃c,mP u η=some c/\(c=true->B e η λf e η=>match f with
  |.ret v=>Q (.ret v) e η
  |_=>qv t B w e η Q)/\(c=false->Q .next e η)):qv t B (w+1) e η Q:=h
theorem jK{α:Type}{f:Option α}{Q:α->Prop}{v:α}(h:f=some v)(q:Q v):∃v,f=some v/\Q v:=⟨v,h,q⟩
theorem lS{α β:Type}{f:Option (α×β)}{Q:α->β->Prop}{v:α}{u:β}(h:f=some (v,u))(q:Q v u):∃v u,f=some (v,u)/\Q v u:=⟨v,u,h,q⟩
theorem aqr{i:Str}{Q:Str->Prop}(q:Q i):∃j,(.str i:PV)=.str j/\Q j:=⟨i,rfl,q⟩
theorem aqs{i:List PV}{Q:List PV->Prop}(q:Q i):∃j,(.tup i:PV)=.tup j/\Q j:=⟨i,rfl,q⟩
theorem LV{f:Option Bool}{A B:Prop}(h:f=some true)(q:A):∃c,f=some c/\(c=true->A)/\(c=false->B):=⟨true,h,λJ=>q,λh=>nomatch h⟩
theorem FJ{f:Option Bool}{A B:Prop}(h:f=some false)(q:B):∃c,f=some c/\(c=true->A)/\(c=false->B):=⟨false,h,λh=>(nomatch h),λJ=>q⟩
theorem alp{b:Bool}{A B:Prop}(a:b=true->A)(c:b=false->B):∃c,some b=some c/\(c=true->A)/\(c=false->B):=⟨b,rfl,a,c⟩
theorem aqt{f:Option Bool}{A B:Prop}(h:f=some true)(q:A):∃t,f=some t/\(t=true->A)/\(t=!true->B):=⟨true,h,λJ=>q,λh=>nomatch h⟩
theorem aqu{f:Option Bool}{A B:Prop}(h:f=some false)(q:B):∃t,f=some t/\(t=true->A)/\(t=!true->B):=⟨false,h,λh=>(nomatch h),λJ=>q⟩
theorem aqv{f:Option Bool}{A B:Prop}(h:f=some true)(q:B):∃t,f=some t/\(t=false->A)/\(t=!false->B):=⟨true,h,λh=>(nomatch h),λJ=>q⟩
theorem alq{f:Option Bool}{A B:Prop}(h:f=some false)(q:A):∃t,f=some t/\(t=false->A)/\(t=!false->B):=⟨false,h,λJ=>q,λh=>nomatch h⟩
theorem aqw{x:Int}{Q:Bool->Prop}(q:Q (decide (x=y))):∃c,mQ .Eq (.int x) (.int y) η=some c/\Q c:=⟨_,rfl,q⟩
theorem aqx{x:Int}{Q:Bool->Prop}(q:Q (!decide (x=y))):∃c,mQ .NotEq (.int x) (.int y) η=some c/\Q c:=⟨_,rfl,q⟩
theorem aqy{x:Int}{Q:Bool->Prop}(q:Q (decide (x<y))):∃c,mQ .Lt (.int x) (.int y) η=some c/\Q c:=⟨_,rfl,q⟩
theorem aqz{x:Int}{Q:Bool->Prop}(q:Q (decide (y<x))):∃c,mQ .Gt (.int x) (.int y) η=some c/\Q c:=⟨_,rfl,q⟩
theorem aqA{b:Bool}{Q:Bool->Prop}(h:lW v=b)(q:Q b):∃c,mQ .Is v .none η=some c/\Q c:=⟨b,congrArg some h,q⟩
theorem aqB{b:Bool}{Q:Bool->Prop}(h:lW v=b)(q:Q (!b)):∃c,mQ .IsNot v .none η=some c/\Q c:=⟨!b,congrArg (λx=>some (!x)) h,q⟩
theorem aqC{a:List PV}{b:List Tt}{Q:Prop}(h:a.length=b.length)(q:Q):a.length=b.length/\Q:=⟨h,q⟩
theorem aqD{n:Nat}{Q:Prop}(h:kB n=true)(q:Q):kB n=true/\Q:=⟨h,q⟩
theorem aqE{Q:Bool->Prop}(h:mP v η=some true)(q:Q true):∃c,mP v η=some c/\Q c:=⟨_,h,q⟩
theorem aqF{Q:Bool->Prop}(h:mP v η=some false)(q:Q false):∃c,mP v η=some c/\Q c:=⟨_,h,q⟩
theorem aqG{op:CmpOp}{u:PV}{b:Bool}{Q:Bool->Prop}(h:mQ op u v η=some b)(q:Q b):∃c,mQ op u v η=some c/\Q c:=⟨_,h,q⟩
theorem aqH{o:PV}{a:Str}{Q:MS->Prop}{v:MS}(h:pg T o a η=some v)(q:Q v):∃v,pg T o a η=some v/\Q v:=⟨_,h,q⟩
theorem aqI{o:PV}{a:Str}{Q:PV->Prop}(h:jV T o a η=some v)(q:Q v):∃v,jV T o a η=some v/\Q v:=⟨_,h,q⟩
theorem aqJ{o a:PV}{Q:PV->Prop}(h:jD T o a η=some v)(q:Q v):∃v,jD T o a η=some v/\Q v:=⟨_,h,q⟩
theorem aqK{o:PV}{a:Str}{u:PV}{Q:AH->Prop}{v:AH}(h:sf T o a u η=some v)(q:Q v):∃v,sf T o a u η=some v/\Q v:=⟨_,h,q⟩
theorem aqL{o a u:PV}{Q:AH->Prop}{v:AH}(h:mV o a u η=some v)(q:Q v):∃v,mV o a u η=some v/\Q v:=⟨_,h,q⟩
theorem aqM{P Q:Prop}(h:P)(q:Q):P/\Q:=⟨h,q⟩
namespace AH
theorem nH(η:AH)(o:AO):(η.add o).reg=η.reg:=rfl
theorem ny(η:AH)(o:AO):(η.add o).iZ=η.iZ+1:=by unfold iZ add;simp
theorem yO(η:AH)(r i:Nat)(o:AO):(η.set r i o).reg=η.reg:=by
 unfold set reg;split<;>simp
theorem Al(η:AH)(r i:Nat)(o:AO):(η.set r i o).iZ=η.iZ:=by
 unfold set iZ;split<;>simp
theorem jP{r:Nat}(h:¬ (r'=r/\i'=i)):(η.set r i o).get r' i'=η.get r' i':=by
 cases hg:η.get r i with
|some u=>rw [get_set hg,if_neg h]
|none=>
  unfold get set at *
  by_cases hr:r=η.old.length
  ·rw [if_pos hr] at hg ⊢
   have hi:=eY.mp hg
   rw [iQ hi]
  ·rw [if_neg hr] at hg ⊢
   simp only [gU]
   by_cases qD:r'=η.old.length
   ·rw [if_pos qD,if_pos qD]
   ·rw [if_neg qD,if_neg qD,gW]
    by_cases WU:r=r'
    ·subst WU
     cases hl:η.old[r]? with
    |none=>rfl
    |some l=>
      rw [hl] at hg
      have hi:=eY.mp (show l[i]?=none from hg)
      show (if r=r then l.set i o else l)[i']?=l[i']?
      rw [if_pos rfl,iQ hi]
    ·simp [WU]
theorem kX{r:Nat}(h:η.get r i=some o):(η.set r i o').get r i=some o':=by
 rw [get_set h,if_pos ⟨rfl,rfl⟩]
theorem pR{r:Nat}(h:η.get r i=some o)(hr:r=η.reg):i<η.iZ:=by
 subst hr
 unfold get reg iZ at *
 rw [if_pos rfl] at h
 exact (cY.mp h).1
theorem jF(η:AH)(o:AO):(η.add o).get η.reg η.iZ=some o:=by rw [wJ,if_pos ⟨rfl,rfl⟩]
theorem kO{r:Nat}(h:η.get r i=some o'):(η.add o).get r i=some o':=by
 rw [wJ,if_neg,h]
 intro lH
 refine jB (lH) λo7 v7=>?_
 obtain rfl:=o7
 obtain rfl:=v7
 rw [Eb] at h
 exact xn h
end AH
structure Ke(η iY:AH):Prop where
 reg:iY.reg=η.reg
 iZ:η.iZ<=iY.iZ
 get:∀r i o,η.get r i=some o->iY.get r i=some o
theorem Ke.refl(η:AH):Ke η η:=⟨rfl,ak _,λJ J J h=>h⟩
theorem Ke.trans{a b c:AH}(h:Ke a b)(k:Ke b c):Ke a c:=⟨k.reg.trans h.reg,ah h.iZ k.iZ,λr i o e=>k.get _ _ _ (h.get _ _ _ e)⟩
theorem Ke.add{a b:AH}(h:Ke a b)(o:AO):Ke a (b.add o):=⟨h.reg,by rw [AH.ny];exact c7 h.iZ,λr i o e=>AH.kO (h.get _ _ _ e)⟩
theorem Ke.set{a b:AH}(h:Ke a b){r:Nat}(hr:r=a.reg)(hi:a.iZ<=i)(o:AO):Ke a (b.set r i o):=by
 refine ⟨by rw [AH.yO,h.reg],by rw [AH.Al];exact h.iZ,λr' i' o' e=>?_⟩
 rw [AH.jP]
 ·exact h.get _ _ _ e
 ·rintro ⟨rfl,rfl⟩
  have:=AH.pR e hr
  exact O6 hi this
theorem lM{n:Nat}(h:n<=65536):kB n=true:=dm.mpr h
theorem jC{α β:Type}{o:Option α}{f:α->Option β}{a:α}{b:Option β}(h:o=some a)(k:f a=b):o.bind f=b:=h.symm▸k
theorem uf{α β:Type}{o:Option α}{f:α->β}{a:α}{b:Option β}(h:o=some a)(k:some (f a)=b):o.map f=b:=h.symm▸k
theorem kP{α:Type}{c:Bool}{x y z:α}(h:c=true)(k:x=z):cond c x y=z:=h.symm▸k
theorem cnf{α:Type}{c:Bool}{x y z:α}(h:c=false)(k:y=z):cond c x y=z:=h.symm▸k
theorem sP{a b:Bool}(h:a=true)(k:b=true):(a && b)=true:=h.symm▸k
section
variable{r:Nat}
theorem FL{c:Addr}(h:η.get r i=some (.inst c fs)):η.ins r i=some (c,fs):=congrArg (λo:Option AO=>o.bind AO.ins) h
theorem nJ(h:η.get r i=some (.list l)):η.lst r i=some l:=congrArg (λo:Option AO=>o.bind AO.lst) h
theorem WV{l:List (Str×PV)}(h:η.get r i=some (.sd l u)):η.dct r i=some (l,u):=congrArg (λo:Option AO=>o.bind AO.dct) h
theorem CF{k:PV}(h:η.get r i=some o)(hl:o.lst=none)(hd:Ej o k v=some o'):mV (.ref r i) k v η=some (η.set r i o'):=jC (o:=gR (.ref r i)) rfl (jC h (by
 dsimp only
 rw [hl]
 exact uf hd rfl))
theorem alr{l:List (Str×PV)}{x:Str}(hl:l.length<65536):Ej (.sd l u) (.str x) v=some (.sd (jz l x v) (u+1)):=by
 show cond (kB (l.length+1)) _ none=_
 exact kP (lM hl) rfl
theorem yP{l:List (Str×PV)}{x:Str}(h:η.get r i=some (.sd l u))(hl:l.length<65536):mV (.ref r i) (.str x) v η=some (η.set r i (.sd (jz l x v) (u+1))):=CF h rfl (alr hl)
theorem Am{x:Str}(h:η.get r i=some .jm):mV (.ref r i) (.str x) v η=some (η.set r i (.sd [(x,v)] 0)):=CF h rfl rfl
theorem CG{op:Operator}{x z:Int}(h:IQ op x y=some z):qK op (.int x) (.int y) η=some (.int z,η):=uf h rfl
theorem rI(h:η.get r i=some (.list l)):wL r i v η=cond (kB (l.length+1)) (some (η.set r i (.list (l++[v])))) none:=jC (nJ h) rfl
theorem FN(h:¬ (r=r'/\i=i')):El r i (.ref r' i')=true:=by
 show (!(aj r r' && aj i i'))=true
 exact (cM _).mpr (fh.mpr λz=>h (xb z λa b=>⟨aP a,aP b⟩))
end
end
local macro_rules |`(tactic| wtm_at $s:str)=>do
 let c:="r aqf aqg aqh aqi aqm aql;v aqk aqj aqn aqo aqp aqq"
 let t:="r apm apl apn apo apq apr aps apt apu apv apx apy apz apA apB apC apD apE apF apG w_k apH apI apJ apK apL w_dict apM apN apO apP w_call apQ apR w_rev apS apT aqw aqx aqy aqz aqr aqs;v pQ;b aqt aqu aqv alq LV FJ aqE aqF aqD aqC;e aqH aqI aqJ aqK aqL;q aqA aqB aqG"
 let i:="i apU apV apW apX apY apZ ap0 ap1 ap2 ap3 ap4 ap5 ap6 ap7 ap8 ap9 aqa aqb aqc aqd aqe;r apw"
 let s:=s.getString
 let s:=if s == "w" then c++";"++t++";"++i else if s == "s" then t++";"++i else if s == "u" then c++";"++t else if s == "t" then t else s
 let l:=s.splitOn ";"
 if s == "W" then `(tactic| repeat' (wtm_at "w"))
 else if l.length != 1 then
  let a <-l.toArray.mapM λn=>`(tacticSeq| wtm_at $(Lean.quote n))
  `(tactic| first $[| $a]*)
 else
  let l:=s.splitOn " "
  let k:=l.headD ""
  let a <-l.tail.toArray.mapM λn=>do
   let i:=Lean.mkIdent (.mkSimple n)
   let t <-if k == "r" || k == "i" then `(tactic| refine $i ?_) else if k == "b" then `(tactic| refine $i ?_ ?_) else `(tactic| apply $i)
   let c <-if k == "r" then `(tactic| skip) else if k == "i" then `(tactic| intro _) else if k == "e" then `(tactic| with_reducible assumption) else if k == "q" then `(tactic| first|with_reducible assumption|rfl) else `(tactic| rfl)
   `(tacticSeq| ((with_reducible $t:tactic);$c:tactic))
  if a.isEmpty then Lean.Macro.throwUnsupported else `(tactic| first $[| $a]*)
local macro_rules |`(tactic| wtm_at "o")=>`(tactic| first|exact b5 rfl|omega)
theorem jb.FP{f:PV}{Q:PV->AH->Prop}(h:k=K)(c:jb k f vs η Q):jb K f vs η Q:=h▸c
theorem jb.at{n:Nat}{a:Addr}{as:List PV}{Q:PV->AH->Prop}(w:Nat)(hc:codeOf tab a n=some (nn,ss))(hK:n+w+1<=K)(hm:MK.any (aj · a)=false)(hb:sL tab a vs=some as)
  (hw:let e':=e;let q:=nc Q;WS (K - (n+w+1)) ss w e' η q) (he:o6 as nn=e:=by (try dsimp only [o6,dU,bq,bW,bN])<;>rfl):jb K (.st (.ref a)) vs η Q:=
 jb.FP (DP hK) (jb.fn (k:=K - (n+w+1)) w hc hm hb (he▸hw))
theorem jb.v9(N:Nat){n:Nat}{a:Addr}{as:List PV}{Q:PV->AH->Prop}(w:Nat)(hc:codeOf tab a n=some (nn,ss))(hK:n+w+1<=K)(hm:MK.any (aj · a)=false)(hb:sL tab a vs=some as)
  (hw:let e':=e;let q:=nc Q;WS (K - (n+w+1)) ss w e' η q) (he:o6 as N=e:=by (try dsimp only [o6,dU,bq,bW,bN])<;>rfl):jb K (.st (.ref a)) vs η Q:=
 jb.FP (DP hK) (jb.fn (k:=K - (n+w+1)) w hc hm hb (he▸hw))
theorem jb.yQ{n:Nat}{a c:Addr}{as:List PV}{Q:PV->AH->Prop}(w:Nat)(h1:jv tab.pG c=none)(h2:jv tab.oA c=some a)(hc:codeOf tab a n=some (nn,ss))(hK:n+w+1<=K)(hb:sL tab a (.ref η.reg η.iZ::vs)=some as)
  (hw:let e':=e;let q:=nc λv iY=>v=.none/\Q (.ref η.reg η.iZ) iY;WS (K - (n+w+1)) ss w e' (η.add (.inst c [])) q) (he:o6 as nn=e:=by (try dsimp only [o6,dU,bq,bW,bN])<;>rfl):jb K (.st (.ref c)) vs η Q:=
 jb.FP (DP hK) (jb.cls (k:=K - (n+w+1)) w h1 h2 hc hb (he▸hw))
theorem jb.mX{f:Value}{Q:PV->AH->Prop}(hK:1<=K)(hf:∀a,f≠.ref a)(h:qk tab f vs η=some (v,iY))(q:Q v iY):jb K (.st f) vs η Q:=
 jb.FP (aaM hK) (jb.blt (k:=K - 1) hf h q)
theorem jA{Q:PV->AH->Prop}(h:Q v η):nc Q (.ret v) e η:=h
theorem wc{Q:PV->AH->Prop}(h:Q .none η):nc Q .next e η:=h
def CH(η:AH)(v:PV)(c:Addr):Prop:=∃r i fs,v=.ref r i/\η.get r i=some (.inst c fs)
theorem als{r:Nat}{c:Addr}(hg:η.get r i=some (.inst c fs)):clsOf (.ref r i) η=some c:=congrArg (λo:Option AO=>(o.bind AO.ins).map az) hg
theorem WW{r:Nat}{l:List (Str×PV)}(hg:η.get r i=some (.sd l u)):wK (.ref r i) η=some l:=congrArg (λo:Option AO=>(o.bind AO.dct).map az) hg
theorem WX{r:Nat}{c:Addr}{f:String->Option Bool}{g:Addr->Option Bool}(hg:η.get r i=some (.inst c fs)):yl (.ref r i) η f g=g c:=congrArg (·.bind g) (als hg)
theorem LW{c:Addr}{n:String}(h:CH η v c)(hb:jv tab.bases c=some bs)(hn:(n == "bool" || n == "int" || n == "str")=true):qk tab (.builtin "isinstance") [v,.st (.type n)] η=some (.bool false,η):=by
 obtain ⟨r,i,fs,rfl,hg⟩:=h
 show (cond (n == "bool" || n == "int" || n == "str") (yl (.ref r i) η _ _) none).map _=_
 rw [hn,cond_true,WX hg,hb]
 rfl
theorem FQ{c C:Addr}{B7:List Addr}{b:Bool}(h:CH η v c)(hb:jv tab.bases c=some bs)(hC:jv tab.bases C=some B7)(e:bs.contains C=b):qk tab (.builtin "isinstance") [v,.st (.ref C)] η=some (.bool b,η):=by
 obtain ⟨r,i,fs,rfl,hg⟩:=h
 show (cond (jv tab.bases C).isSome (yl (.ref r i) η _ _) none).map _=_
 rw [hC,WX hg,hb,<-e]
 rfl
theorem An:jv tab.bases 226=some [226,38]:=by kernel_rfl
theorem FT:jv tab.bases 38=some [38]:=by kernel_rfl
theorem WY{c:Addr}(hK:10<=K)(h:CH η v c)(hb:jv tab.bases c=some bs):jb K (.st (.ref 265)) [v] η λu iY=>u=.str JC/\iY=η:=by
 have hn:lW v=false:=by obtain ⟨r,i,fs,rfl,_⟩:=h;rfl
 refine jb.le (k:=10) ?_ hK
 refine jb.at (as:=[v]) 0 VB (by wtm_at "o") rfl (by kernel_rfl) ?_;intro _ _
 unfold LK
 wtm_at "W"
 ·refine jb.mX (by wtm_at "o") (by intro _ h;cases h) (LW h hb rfl) ?_
  wtm_at "W"
  refine jb.mX (by wtm_at "o") (by intro _ h;cases h) (LW h hb rfl) ?_
  wtm_at "W"
  refine jb.mX (by wtm_at "o") (by intro _ h;cases h) (LW h hb rfl) ?_
  wtm_at "W"
  exact ⟨rfl,rfl⟩
section
set_option genCtorIdx false in
structure Cfg where
 ns:List Str
 j8:Str->Nat
 num:Str->Int
 cls:Str->Bool
 jt:Str->Option Str
 mS:Str->Bool
 own:Str->Option Str
 owner:Str->Str
 nat:Str->PV
 front:Str->List Str
 mix:Str->List Str
 mY:Str->Nat
 mU:Str->Nat
 ku:Str->Nat
 has:Str->Option (Str×Str×Str)
 name:Str
 native:Str
 line:Str->List Str
 depth:Str->Nat
 rank:Str->Nat
 jI:Nat
 pC:Int
 sQ:Nat
 CJ:Nat
 rJ:Nat
 made:Nat
 fix:Nat->Option AO
namespace Cfg
noncomputable def m(C:Cfg)(n:Str):PV:=.ref 1 (C.j8 n)
def opt(C:Cfg):Option Str->PV
|none=>.none
|some n=>C.m n
noncomputable def visit(C:Cfg):Nat->List Str×List Str->Str->List Str×List Str
|0,s,_=>s
|f+1,s,g=>if g∈s.2 then s else
  let t:=(C.front g).reverse.foldl (C.visit f) (s.1,s.2++[g])
  (C.mix g).reverse.foldl (C.visit f) (t.1++[g],t.2)
def mZ(C:Cfg)(n:Str):List Str:=(C.visit 3 ([],[]) n).1
noncomputable def oS(n:Str)(behind:List Str):Bool->List Str->List Str
|_,[]=>[]
|a,g::r=>let b:=a && !decide (g=n)
  if b=true\/g∉behind then g::oS n behind b r else oS n behind b r
def oU(C:Cfg)(n:Str)(behind:List Str):List Str:=
 if C.front n=[]/\C.mix n=[] then n::behind else
  let f:=oS n behind true (C.mZ n)
  f++behind.filter λg=>decide (g∉f)
end Cfg
def yR(nm:Str)(o:PV)(s:Str)(ps b:PV)(g:Str):List (Str×PV):=[(nE,.str nm),(lK,o),(rD,.str s),(yy,ps),(yv,b),(oF,.str g),(uL,.tup []),(uK,.none),(uJ,.none)]
structure lD(C:Cfg):Prop where
 jt:∀n∈C.ns,∀p,C.jt n=some p->p∈C.ns/\C.depth p<C.depth n
 deep:∀n∈C.ns,C.depth n<10
 FU:∀n∈C.ns,C.mS n=true->∃p,C.jt n=some p
 own:∀n∈C.ns,∀p,C.own n=some p->p∈C.ns
 owner:∀n∈C.ns,C.owner n∈C.ns
 front:∀n∈C.ns,∀g∈C.front n,g∈C.ns/\C.rank g<C.rank n
 mix:∀n∈C.ns,∀g∈C.mix n,g∈C.ns/\C.rank g<C.rank n
 few:C.ns.length<=40
 rank:∀n∈C.ns,C.rank n<=2
 WZ:∀n∈C.ns,∀g,(g∈C.front n\/g∈C.mix n)->C.jt g=none
 Ao:∀n∈C.ns,(C.front n).length<=2
 Aq:∀n∈C.ns,(C.mix n).length<=2
 line:∀n∈C.ns,C.line n=C.oU n (match C.jt n with|none=>[]|some p=>C.line p)
 Ar:∀a∈C.ns,∀b∈C.ns,C.num a=C.num b->a=b
 FW:∀a∈C.ns,∀b∈C.ns,C.j8 a=C.j8 b->a=b
 As:∀a∈C.ns,∀b∈C.ns,C.ku a=C.ku b->a=b
 W2:∀n∈C.ns,C.fix (C.j8 n)=none
 W3:∀n∈C.ns,C.fix (C.ku n)=none
 Au:∀n∈C.ns,C.fix (C.mU n)=some (.list ((C.mix n).map C.m))
 Av:∀n∈C.ns,C.fix (C.mY n)=some (.list ((C.front n).map C.m))
 jI:∃ws,C.fix C.jI=some (.inst 1054 ws)/\ja ws sE=some (.int C.pC)/\ja ws vV=some (.ref 1 C.sQ)/\ja ws vW=some (.ref 1 C.rJ)/\ja ws tZ=some (.ref 1 C.made)/\ja ws rz=none/\ja ws vM=none/\ja ws oZ=none/\ja ws yx=none/\ja ws t5=none
 made:∃l u,C.fix C.made=some (.sd l u)/\ja l jW=some (C.m jW)/\ja l jX=some (C.m jX)
 LY:jW∈C.ns/\jX∈C.ns
 rJ:C.fix C.rJ=some .jm
 sQ:(C.native=kg/\C.fix C.sQ=some .jm)\/(C.native≠kg/\∃u u',C.fix C.sQ=some (.sd [(C.native,.ref 1 C.CJ)] u)/\C.fix C.CJ=some (.sd [(C.name,.tup [.none,.int 0,.int 0])] u'))
 LZ:∀n∈C.ns,C.nat n=.none\/∃x,C.nat n=.str x/\(x=C.native\/(sq C.native x=false))
 W4:∀n∈C.ns,C.has n=none->C.native=kg\/C.nat n≠.str C.native
 oN:∀n∈C.ns,∀s g o,C.has n=some (s,g,o)->o∈C.ns/\(s=sD\/s=m8\/s=ly\/(s=kJ/\o=n/\C.native≠kg/\C.nat n=.str C.native/\g=(if C.name=tX\/(C.native=j0/\C.name=t4) then nj else kh)))
 names:C.name=B6\/C.name=t4\/C.name=tX
 wg:C.native=kg\/C.native=j0\/C.native=jW\/C.native=jX
def CK(C:Cfg)(η:AH)(n:Str)(kv:PV):Prop:=kv=.none\/∃i,kv=.tup [.int C.pC,.ref 2 i]/\η.get 2 i=some (.list ((C.line n).map C.m))
structure FY(C:Cfg)(η:AH)(n:Str)(fs:List (Str×PV)):Prop where
 number:ja fs mC=some (.int (C.num n))
 xE:ja fs ry=some (.bool (C.cls n))
 parent:ja fs qN=some (C.opt (C.jt n))
 attached:∃v,ja fs uI=some v/\lW v=!C.mS n/\oh v=true
 own:ja fs nF=some (C.opt (C.own n))
 owner:ja fs lK=some (C.m (C.owner n))
 native:ja fs kJ=some (C.nat n)
 mixed:ja fs mz=some (.ref 1 (C.mU n))
 ahead:ja fs sy=some (.ref 1 (C.mY n))
 methods:ja fs qM=some (.ref 1 (C.ku n))
 kept:∃kv,ja fs ni=some kv/\CK C η n kv
 CL:ja fs vP=none
 len:fs.length=17
def kZ(C:Cfg)(η:AH)(v:PV)(s g o:Str):Prop:=∃r i c b,v=.ref r i/\η.get r i=some (.inst c (yR C.name (C.m o) s .none b g))/\(c=254\/c=333)/\oh b=true
def ug(C:Cfg)(η:AH)(n:Str):Prop:=match C.has n with
|none=>η.get 1 (C.ku n)=some .jm
|some (s,g,o)=>(∃l u v,η.get 1 (C.ku n)=some (.sd l u)/\ja l C.name=some v/\kZ C η v s g o)\/(s=kJ/\η.get 1 (C.ku n)=some .jm)
structure WF(C:Cfg)(η:AH):Prop where
 reg:η.reg=2
 mod:∀n∈C.ns,∃fs,η.get 1 (C.j8 n)=some (.inst 226 fs)/\FY C η n fs
 lP:∀n∈C.ns,ug C η n
 fix:∀i o,C.fix i=some o->η.get 1 i=some o
section
theorem CK.ke(h:∀i o,η.get 2 i=some o->iY.get 2 i=some o){kv:PV}(k:CK C η n kv):CK C iY n kv:=by
 rcases k with k|⟨i,a,b⟩
 ·exact .inl k
 ·exact .inr ⟨i,a,h _ _ b⟩
theorem FY.ke(h:∀i o,η.get 2 i=some o->iY.get 2 i=some o)(k:FY C η n fs):FY C iY n fs:=
 ⟨k.number,k.xE,k.parent,k.attached,k.own,k.owner,k.native,k.mixed,k.ahead,k.methods,by obtain ⟨kv,a,b⟩:=k.kept;exact ⟨kv,a,b.ke h⟩,k.CL,k.len⟩
theorem kZ.ke(h:∀r i c fs,(c=254\/c=333)->η.get r i=some (.inst c fs)->iY.get r i=some (.inst c fs)){s o:Str}(k:kZ C η v s g o):kZ C iY v s g o:=by
 refine D9 (k) λr i c b e g hc hb=>?_
 exact Qe r i c b e (h _ _ _ _ hc g) hc hb
theorem ug.ke(h:∀r i c fs,(c=254\/c=333)->η.get r i=some (.inst c fs)->iY.get r i=some (.inst c fs))(hm:∀o,η.get 1 (C.ku n)=some o->iY.get 1 (C.ku n)=some o)(k:ug C η n):ug C iY n:=by
 unfold ug at *
 split at k
 ·exact hm _ k
 ·rcases k with ⟨l,u,v,a,b,c⟩|⟨a,b⟩
  ·exact .inl ⟨l,u,v,hm _ a,b,c.ke h⟩
  ·exact .inr ⟨a,hm _ b⟩
theorem WF.ke(h:Ke η iY)(W:WF C η):WF C iY where
 reg:=h.reg.trans W.reg
 mod n hn:=by obtain ⟨fs,a,b⟩:=W.mod n hn;exact ⟨fs,h.get _ _ _ a,b.ke λJ J e=>h.get _ _ _ e⟩
 lP n hn:=(W.lP n hn).ke (λJ J J J J e=>h.get _ _ _ e) λJ e=>h.get _ _ _ e
 fix i o e:=h.get _ _ _ (W.fix i o e)
theorem sR:jv tab.fields 226=some [sy,uI,EH,ry,ni,qM,mz,nE,kJ,zQ,qN,zM,zN,zP,mC,nF,lK]:=by kernel_rfl
theorem sS{r:Nat}{c:Addr}{ns:List Str}{a:Str}(h:η.get r i=some (.inst c fs))(hf:jv tab.fields c=some ns)(ha:oN ns a=true)(hp:ja fs a=some p)(hh:oh p=true):jV tab (.ref r i) a η=some p:=jC (o:=gR (.ref r i)) rfl (jC (FL h) (jC hf (kP ha (jC hp (kP hh rfl)))))
theorem L0(o:Option Str):oh (C.opt o)=true:=by cases o<;>rfl
variable(W:WF C η)(hn:n∈C.ns)
include W hn
theorem WF.number:jV tab (C.m n) mC η=some (.int (C.num n)):=by
 refine jL (W.mod n hn) λfs a b=>?_
 exact sS a sR (by decide +kernel) b.number rfl
theorem WF.xE:jV tab (C.m n) ry η=some (.bool (C.cls n)):=by
 refine jL (W.mod n hn) λfs a b=>?_
 exact sS a sR (by decide +kernel) b.xE rfl
theorem WF.parent:jV tab (C.m n) qN η=some (C.opt (C.jt n)):=by
 refine jL (W.mod n hn) λfs a b=>?_
 exact sS a sR (by decide +kernel) b.parent (L0 _)
theorem WF.own:jV tab (C.m n) nF η=some (C.opt (C.own n)):=by
 refine jL (W.mod n hn) λfs a b=>?_
 exact sS a sR (by decide +kernel) b.own (L0 _)
theorem WF.owner:jV tab (C.m n) lK η=some (C.m (C.owner n)):=by
 refine jL (W.mod n hn) λfs a b=>?_
 exact sS a sR (by decide +kernel) b.owner rfl
theorem WF.mixed:jV tab (C.m n) mz η=some (.ref 1 (C.mU n)):=by
 refine jL (W.mod n hn) λfs a b=>?_
 exact sS a sR (by decide +kernel) b.mixed rfl
theorem WF.ahead:jV tab (C.m n) sy η=some (.ref 1 (C.mY n)):=by
 refine jL (W.mod n hn) λfs a b=>?_
 exact sS a sR (by decide +kernel) b.ahead rfl
theorem WF.methods:jV tab (C.m n) qM η=some (.ref 1 (C.ku n)):=by
 refine jL (W.mod n hn) λfs a b=>?_
 exact sS a sR (by decide +kernel) b.methods rfl
theorem WF.native(C':lD C):jV tab (C.m n) kJ η=some (C.nat n):=by
 refine jL (W.mod n hn) λfs a b=>?_
 refine sS a sR (by decide +kernel) b.native ?_
 rcases C'.LZ n hn with e|⟨x,e,_⟩<;>rw [e]<;>rfl
theorem WF.attached:∃v,jV tab (C.m n) uI η=some v/\lW v=!C.mS n:=by
 refine jL (W.mod n hn) λfs a b=>?_
 refine vo (b.attached) λv e f g=>?_
 exact ⟨v,sS a sR (by decide +kernel) e g,f⟩
theorem WF.kept:∃v,jV tab (C.m n) ni η=some v/\CK C η n v:=by
 refine jL (W.mod n hn) λfs a b=>?_
 refine jL (b.kept) λv e f=>?_
 refine ⟨v,sS a sR (by decide +kernel) e ?_,f⟩
 rcases f with rfl|⟨i,rfl,_⟩<;>rfl
theorem WF.inst:CH η (C.m n) 226:=by
 refine jL (W.mod n hn) λfs a b=>?_
 exact aeJ _ _ fs rfl a
end
end
section
section
variable{w:Nat}{b:jn}
@[reducible] noncomputable def Aw(Q:QS)(G:Sl->AH->Prop):QS:=λfl e η=>match fl with
|.ret v=>Q (.ret v) e η
|_=>G e η
theorem FZ{α:Type}{f:α->PV}{all:List α}{S:Src}{Q:QS}{Inv:List α->Sl->AH->Prop}(hI:∀d t e η,all=d++t->Inv d e η->S.at d.length η=some (t.head?.map f))
  (step:∀d x t e η,all=d++x::t->Inv d e η->∀G:Sl->AH->Prop,(∀e η,Inv (d++[x]) e η->G e η)->∃e',tg.bind (f x) e=some e'/\WS k b w e' η (Aw Q G))
  (fin:∀e η,Inv all e η->Q .next e η) {t:List α}:∀(d:List α) (n:Nat) (e:Sl) (η:AH),all=d++t->t.length<n->Inv d e η->oO (λe η Q=>WS k b w e η Q) tg S n d.length e η Q:=by
 induction t with
|nil=>exact λd n e η ha hn I=>match n,hn with
 |n+1,_=>⟨none,hI d [] e η ha I,fin _ _ ((ha.trans (bU d))▸I)⟩
|cons x t ih=>exact λd n e η ha hn I=>match n,hn with
 |n+1,hn=>(step d x t e η ha I _ λe η I=>(congrArg (λm=>oO _ tg S n m e η Q) (aE (as:=d) (bs:=[x]))).mp (ih (d++[x]) n e η (ha.trans (bQ d [x] t).symm) (cj hn) I)).elim λe' z=>⟨some (f x),hI d (x::t) e η ha I,e',z⟩
theorem W5{α:Type}{f:α->PV}{all:List α}{S:Src}{Q:AH->Prop}{Inv:List α->Sl->AH->Prop}(hI:∀d t e η,all=d++t->Inv d e η->S.at d.length η=some (t.head?.map f))
  (step:∀d x t e η,all=d++x::t->Inv d e η->∀G:Sl->AH->Prop,(∀e η,Inv (d++[x]) e η->G e η)->∃e',tg.bind (f x) e=some e'/\TI e' η λb η=>(b=true->EM e' η (G e'))/\(b=false->G e' η))
  (fin:∀e η,Inv all e η->Q η) {t:List α}:∀(d:List α) (n:Nat) (e:Sl) (η:AH),all=d++t->t.length<n->Inv d e η->o5 TI EM tg S n d.length e η Q:=by
 induction t with
|nil=>exact λd n e η ha hn I=>match n,hn with
 |n+1,_=>⟨none,hI d [] e η ha I,fin _ _ ((ha.trans (bU d))▸I)⟩
|cons x t ih=>exact λd n e η ha hn I=>match n,hn with
 |n+1,hn=>(step d x t e η ha I _ λe η I=>(congrArg (λm=>o5 TI EM tg S n m e η Q) (aE (as:=d) (bs:=[x]))).mp (ih (d++[x]) n e η (ha.trans (bQ d [x] t).symm) (cj hn) I)).elim λe' z=>⟨some (f x),hI d (x::t) e η ha I,e',z⟩
theorem L5{α:Type}{f:α->PV}{all d t:List α}(h:all=d++t):(all.map f)[d.length]?=t.head?.map f:=by
 rw [h,cQ,fk (ak _),fY]
 cases t<;>rfl
theorem W6{α:Type}{f:α->PV}{all d t:List α}{r:Nat}(hl:all.length<=65536)(h:η.get r i=some (.list (all.map f)))(ha:all=d++t):(Src.lst r i).at d.length η=some (t.head?.map f):=
 jC (nJ h) (kP (lM ((aC ..).symm▸hl)) (congrArg some (L5 ha)))
theorem W7{α:Type}(f:α->PV)(all:List α){r:Nat}(hl:all.length<=65536){Q:QS}(Inv:List α->Sl->AH->Prop)
  (hI:∀d e η,Inv d e η->η.get r i=some (.list (all.map f))) (h0:Inv [] e η)
  (step:∀d x t e η,all=d++x::t->Inv d e η->∀G:Sl->AH->Prop,(∀e η,Inv (d++[x]) e η->G e η)->∃e',tg.bind (f x) e=some e'/\WS k b w e' η (Aw Q G))
  (fin:∀e η,Inv all e η->Q .next e η):∃S,ro false (.ref r i) η=some S/\oO (λe η Q=>WS k b w e η Q) tg S (S.len η+1) 0 e η Q:=
 have h:=hI _ _ _ h0
 ⟨.lst r i,jC h rfl,FZ (λd t e η ha I=>W6 hl (hI _ _ _ I) ha) step fin [] _ e η rfl (cg (aq ((aC f).symm.trans (congrArg (λo:Option (List PV)=>(o.getD []).length) (nJ h)).symm))) h0⟩
theorem comp_map{α:Type}(f:α->PV)(all:List α){r:Nat}(hl:all.length<=65536){Q:AH->Prop}(Inv:List α->Sl->AH->Prop)
  (hI:∀d e η,Inv d e η->η.get r i=some (.list (all.map f)))
  (step:∀d x t e η,all=d++x::t->Inv d e η->∀G:Sl->AH->Prop,(∀e η,Inv (d++[x]) e η->G e η)->∃e',tg.bind (f x) e=some e'/\TI e' η λb η=>(b=true->EM e' η (G e'))/\(b=false->G e' η))
  (fin:∀e η,Inv all e η->Q η) (h0:Inv [] e η):o5 TI EM tg (.lst r i) (all.length+1) 0 e η Q:=
 W5 (λd t e η ha I=>W6 hl (hI _ _ _ I) ha) step fin [] _ e η rfl (bG _) h0
theorem sU{r:Nat}(h:η.get r i=some (.list l)):tG (.ref r i) η=some (.lst r i):=jC h rfl
theorem sV{r:Nat}(h:η.get r i=some (.list l)):(Src.lst r i).len η=l.length:=congrArg (λo:Option (List PV)=>(o.getD []).length) (nJ h)
theorem Ax{α ι:Type}(f:α->PV)(all:List α){r:Nat}(hl:all.length<=65536){Q:QS}(E:ι->Sl)(Inv:List α->ι->AH->Prop)(x0:ι)(he:e=E x0)
  (hI:∀d x η,Inv d x η->η.get r i=some (.list (all.map f))) (h0:Inv [] x0 η)
  (step:∀d a t x η,all=d++a::t->Inv d x η->∀G:Sl->AH->Prop,(∀x η,Inv (d++[a]) x η->G (E x) η)->∃e',tg.bind (f a) (E x)=some e'/\WS k b w e' η (Aw Q G))
  (fin:∀x η,Inv all x η->let e1:=E x;Q .next e1 η):∃S,ro false (.ref r i) η=some S/\oO (λe η Q=>WS k b w e η Q) tg S (S.len η+1) 0 e η Q:=
 W7 f all hl (λd e η=>∃x,e=E x/\Inv d x η) (λd e η h=>h.elim λx h=>hI d x η h.2) ⟨x0,he,h0⟩ (λd a t e η ha h G q=>h.elim λx h=>h.1▸step d a t x η ha h.2 G λx η I=>q _ _ ⟨x,rfl,I⟩) (λe η h=>h.elim λx h=>h.1▸fin x η h.2)
theorem uh{α ι:Type}(f:α->PV)(all:List α){r:Nat}(hl:all.length<=65536){Q:AH->Prop}(E:ι->Sl)(Inv:List α->ι->AH->Prop)(x0:ι)(he:e=E x0)
  (hI:∀d x η,Inv d x η->η.get r i=some (.list (all.map f))) (h0:Inv [] x0 η)
  (step:∀d a t x η,all=d++a::t->Inv d x η->∀G:Sl->AH->Prop,(∀x η,Inv (d++[a]) x η->G (E x) η)->∃e',tg.bind (f a) (E x)=some e'/\TI e' η λb η=>(b=true->EM e' η (G e'))/\(b=false->G e' η))
  (fin:∀x η,Inv all x η->Q η):o5 TI EM tg (.lst r i) (all.length+1) 0 e η Q:=
 comp_map f all hl (λd e η=>∃x,e=E x/\Inv d x η) (λd e η h=>h.elim λx h=>hI d x η h.2) (λd a t e η ha h G q=>h.elim λx h=>h.1▸step d a t x η ha h.2 G λx η I=>q _ _ ⟨x,rfl,I⟩) (λe η h=>h.elim λx h=>fin x η h.2) ⟨x0,he,h0⟩
theorem alu{n:Nat}(h:n<=65536)(e:AH):tG (.mr 0 n) e=some (.mr 0 n):=by
 exact kP (sP (sP rfl (decide_eq_true Bm)) (decide_eq_true (Oo h))) rfl
theorem F0{ι:Type}{n:Nat}(hn:n<=65536){Q:QS}(E:ι->Sl)(Inv:Nat->ι->AH->Prop)(x0:ι)(he:e=E x0)(h0:Inv 0 x0 η)
  (step:∀j t x η,n=j+(t+1)->Inv j x η->∀G:Sl->AH->Prop,(∀x η,Inv (j+1) x η->G (E x) η)->∃e',tg.bind (.int j) (E x)=some e'/\WS k b w e' η (Aw Q G))
  (fin:∀x η,Inv n x η->let e1:=E x;Q .next e1 η):∃S,ro false (.mr 0 n) η=some S/\oO (λe η Q=>WS k b w e η Q) tg S (S.len η+1) 0 e η Q:=by
 have ln:=List.length_range (n:=n)
 refine ⟨.mr 0 n,alu hn η,FZ (f:=λj:Nat=>.int j) (all:=aX n) (Inv:=λd e η=>∃x,e=E x/\Inv d.length x η) (λd t e η ha J=>?_) (λd a t e η ha h G q=>?_) (λe η h=>h.elim λx h=>h.1▸fin x η (ln▸h.2)) [] _ e η rfl ?_ ⟨x0,he,h0⟩⟩
 ·show some (cond (decide ((0:Int)+d.length<n)) (some (PV.int (0+d.length))) none)=_
  rw [ha,aE] at ln
  rw [Int.zero_add,<-ln]
  cases t with
 |nil=>rw [decide_eq_false (by simp)];rfl
 |cons x t=>
   have hx:(aX n)[d.length]?=some x:=by rw [ha];simp
   rw [gA (by rw [<-ln];exact bf (bO _))] at hx
   rw [show decide ((d.length:Int)<((d.length+(x::t).length:Nat):Int))=true from decide_eq_true (aS.mpr (bf (bO _))),ai hx]
   rfl
 ·refine h.elim λx h=>?_
  have hl:n=d.length+(t.length+1):=by rw [<-ln,ha,aE];rfl
  have hx:(aX n)[d.length]?=some a:=by rw [ha];simp
  rw [gA (by rw [hl];exact bf (bO _))] at hx
  rw [h.1,<-ai hx]
  exact step d.length t.length x η hl h.2 G λx η I=>q _ _ ⟨x,rfl,(aE (as:=d) (bs:=[a])).symm▸I⟩
 ·refine cg (aq (ln.trans ?_))
  exact (congrArg Int.toNat (Int.sub_zero (n:Int))).symm
noncomputable abbrev Jk:=Nat->Option PV
theorem W8{x:X}{W9:Sl}{Q:QP}(h:let e':=W9;let q:=Q;W k x e' η q)(he:e=W9):W k x e η Q:=he▸h
theorem Xa{α ι:Type}(f:α->PV)(all:List α){r:Nat}(hl:all.length<=65536){elt:X}{fr:List Nat}{Q:QP}(E:ι->Sl)(Inv:List α->ι->AH->Prop)(x0:ι){g:Nat}(mj:η.reg=g)(hg:η.get r i=some (.list (all.map f)))(wh:allB e fr=true)(he:clear e ls=E x0)
  (hI:∀d x iY,Inv d x iY->iY.get r i=some (.list (all.map f))) (h0:Inv [] x0 (η.add (.list [])))
  (step:∀d a t x iY,all=d++a::t->Inv d x iY->∀G:Sl->AH->Prop,(∀x η,Inv (d++[a]) x η->G (E x) η)->∃e',tg.bind (f a) (E x)=some e'/\W k elt e' iY (λv kR=>∃jl,wL g η.iZ v kR=some jl/\G e' jl))
  (fin:∀x iY,Inv all x iY->Q (.ref g η.iZ) iY) :
  ∃S,tG (.ref r i) η=some S/\allB e fr=true/\o5 (TL k .nil) (λe' iY Q'=>W k elt e' iY λv kR=>∃jl,wL η.reg η.iZ v kR=some jl/\Q' jl) tg S (S.len η+1) 0 (clear e ls) (η.add (.list [])) (λiY=>Q (.ref η.reg η.iZ) iY):=by
 refine ⟨_,sU hg,wh,?_⟩
 rw [sV hg,aC,he,mj]
 exact comp_map f all hl (λd e iY=>∃x,e=E x/\Inv d x iY) (λd e iY h=>h.elim λx h=>hI d x iY h.2) (λd a t e iY ha h G q=>h.elim λx h=>h.1▸(step d a t x iY ha h.2 G λx η I=>q _ _ ⟨x,rfl,I⟩).elim λe' z=>⟨e',z.1,λJ=>z.2,λz=>xf z.symm⟩) (λe iY h=>h.elim λx h=>fin x iY h.2) ⟨x0,he.symm▸rfl,h0⟩
end
section
theorem alv(O:lD C){a b:Str}(ha:a∈C.ns)(hb:b∈C.ns):decide (C.num a=C.num b)=decide (a=b):=by
 rw [decide_eq_decide]
 exact ⟨O.Ar _ ha _ hb,λe=>by rw [e]⟩
theorem Xb(O:lD C)(W:WF C η){a b:Str}(ha:a∈C.ns)(hb:b∈C.ns)(hK:20<=K):jb K (.st (.ref 272)) [C.m a,C.m b] η λv iY=>v=.bool (decide (a=b))/\iY=η:=by
 refine jb.le (k:=20) ?_ hK
 refine jb.at (as:=[C.m a,C.m b]) 0 akp (by wtm_at "o") rfl (by kernel_rfl) ?_;intro _ _
 unfold VC
 wtm_at "W"
 refine (WY (dc rfl) (W.inst ha) An).same ?_
 wtm_at "W"
 refine (WY (dc rfl) (W.inst hb) An).same ?_
 have n1:=W.number ha
 have n2:=W.number hb
 wtm_at "W"
 refine jA ⟨?_,rfl⟩
 rw [<-alv O ha hb]
theorem alw(O:lD C)(W:WF C η)(hn:n∈C.ns){l:List Str}(hl:∀x∈l,x∈C.ns)(hL:l.length<=65536){r:Nat}(hg:η.get r i=some (.list (l.map C.m)))(hK:30<=K):
  jb K (.st (.ref 299)) [.ref r i,C.m n] η λv iY=>v=.bool (decide (n∈l))/\iY=η:=by
 refine jb.le (k:=30) ?_ hK
 refine jb.at (as:=[.ref r i,C.m n]) 0 akq (by wtm_at "o") rfl (by kernel_rfl) ?_;intro _ _
 unfold VD
 wtm_at "s";wtm_at "s";wtm_at "s"
 refine W7 C.m l hL (λd e iY=>iY=η/\n∉d/\∃u,e=[some (.ref r i),some (C.m n),u]) ?_ ⟨rfl,by simp,_,rfl⟩ ?_ ?_
 ·rintro d e iY ⟨rfl,_⟩
  exact hg
 ·rintro d x t e iY hd ⟨rfl,h1,u,rfl⟩ G q
  refine ⟨_,rfl,?_⟩
  have hx:x∈C.ns:=hl x (by simp [hd])
  wtm_at "W"
  refine (Xb O W hx hn (by wtm_at "o")).same ?_
  refine alp (λh=>?_) λh=>?_
  ·wtm_at "W"
   refine jA ⟨?_,rfl⟩
   have:x=n:=by simpa using h
   subst this
   simp [hd]
  ·wtm_at "W"
   refine q _ _ ⟨rfl,?_,_,rfl⟩
   have:x≠n:=by simpa using h
   simp [h1,cX this]
 ·rintro e iY ⟨rfl,h1,u,rfl⟩
  wtm_at "W"
  exact jA ⟨by simp [h1],rfl⟩
end
end
theorem alx{α:Type}(l:List (Int×α))(x y:Int)(v:α):ri (vA l x v) y=if y=x then some v else ri l y:=by
 induction l with
|nil=>
  unfold vA ri ri
  by_cases h:y=x
  ·subst h;simp
  ·simp [h,cX h]
|cons p r ih=>
  obtain ⟨z,u⟩:=p
  unfold vA
  by_cases hz:z=x
  ·subst hz
   simp only [decide_true,cond_true]
   unfold ri
   by_cases h:y=z
   ·subst h;simp
   ·simp [h,cX h]
  ·simp only [hz,decide_false,cond_false]
   unfold ri
   by_cases h:z=y
   ·subst h;simp [hz]
   ·simp only [h,decide_false,cond_false];exact ih
theorem aly{α:Type}(l:List (Int×α))(x:Int)(v:α):(vA l x v).length<=l.length+1:=by
 induction l with
|nil=>simp [vA]
|cons p r ih=>
  obtain ⟨z,u⟩:=p
  unfold vA
  by_cases hz:z=x
  ·simp [hz]
  ·simp only [hz,decide_false,cond_false,aZ];exact Z0 ih
def sW(C:Cfg)(o:AO)(l:List Str):Prop:=(l=[]/\o=.jm)\/∃d,o=.rY d/\d.length<=l.length/\∀x∈C.ns,(ri d (C.num x)).isSome=decide (x∈l)
section
theorem sW.mem{r:Nat}{l:List Str}{x:Str}(h:sW C o l)(hg:η.get r i=some o)(hx:x∈C.ns):se (.int (C.num x)) (.ref r i) η=some (decide (x∈l)):=by
 show (η.get r i).bind _=_
 refine jC hg ?_
 rcases h with ⟨rfl,rfl⟩|⟨d,rfl,_,h⟩
 ·rfl
 ·exact congrArg some (h x hx)
theorem sW.put{r:Nat}{l:List Str}{x:Str}(O:lD C)(h:sW C o l)(hL:l.length<=60000)(hg:η.get r i=some o)(hx:x∈C.ns):∃o',mV (.ref r i) (.int (C.num x)) v η=some (η.set r i o')/\sW C o' (l++[x]):=by
 rcases h with ⟨rfl,rfl⟩|⟨d,rfl,hd,h⟩
 ·refine ⟨_,CF hg rfl rfl,.inr ⟨_,rfl,by simp,λy hy=>?_⟩⟩
  unfold ri
  by_cases e:y=x
  ·subst e;simp
  ·have:C.num x≠C.num y:=λq=>e (O.Ar _ hy _ hx q.symm)
   simp [this,e,ri]
 ·refine ⟨_,CF hg rfl (jC rfl (kP (lM (Z1 hL hd)) rfl)),.inr ⟨_,rfl,by have:=aly d (C.num x) v;simp;exact HF hd this,λy hy=>?_⟩⟩
  rw [alx]
  by_cases e:y=x
  ·subst e;simp
  ·have:C.num y≠C.num x:=λq=>e (O.Ar _ hy _ hx q)
   rw [if_neg this,h y hy]
   simp [e]
theorem sW.yi{l:List Str}(h:sW C o l):Internal.yi (some o)=true:=by
 rcases h with ⟨_,rfl⟩|⟨d,rfl,_⟩<;>rfl
theorem sW.nil:sW C .jm []:=.inl ⟨rfl,rfl⟩
theorem Ay{a b:PV}{t:Bool}{Q:Bool->Prop}(h:se a b η=some t)(q:Q (!t)):∃c,mQ .NotIn a b η=some c/\Q c:=⟨!t,by show (se a b η).map _=_;rw [h];rfl,q⟩
theorem Xc(O:lD C)(W:WF C η){l:List Str}(hl:∀x∈l,x∈C.ns)(hL:l.length<=60000){r:Nat}(hg:η.get r i=some (.list (l.map C.m)))(hK:30<=K):
  jb K (.st (.ref 309)) [.ref r i] η λv iY=>v=.ref η.reg η.iZ/\Ke η iY/\∃o,iY.get η.reg η.iZ=some o/\sW C o l:=by
 refine jb.le (k:=30) ?_ hK
 refine jb.v9 3 (as:=[.ref r i]) 0 aks (by wtm_at "o") rfl (by kernel_rfl) ?_;intro _ _
 unfold VF
 wtm_at "W"
 refine alo ?_
 wtm_at "W"
 refine ⟨_,sU hg,rfl,?_⟩
 rw [sV hg,aC]
 refine uh C.m l (DJ hL) (λu:Option PV=>[some (.ref r i),none,u,none]) (λd J iY=>Ke η iY/\∃o,iY.get η.reg η.iZ=some o/\sW C o d) _ rfl (λd x iY h=>h.1.get _ _ _ hg) ⟨(Ke.refl η).add _,_,AH.jF _ _,.nil⟩ ?_ λx iY h=>⟨rfl,h⟩
 intro d x t u iY hd I G q
 refine jB I λh I=>jL I λo ho hn=>?_
 have hx:x∈C.ns:=hl x (by simp [hd])
 have W':=W.ke h
 refine ⟨_,rfl,?_⟩
 wtm_at "s"
 refine ⟨λJ=>?_,λh=>nomatch h⟩
 have:=W'.number hx
 wtm_at "W"
 refine ⟨by rw [ho];exact hn.yi,?_⟩
 have Ga:d.length<=l.length:=by rw [hd];simp
 refine jL (hn.put (v:=.bool true) O (Z2 hL Ga) ho hx) λo' h1 h2=>?_
 exact ⟨_,h1,q _ _ ⟨h.set rfl (ak _) _,o',AH.kX ho,h2⟩⟩
end
section
section
variable{r:Nat}
theorem qE(h:η.get r i=some (.list l))(hn:(sq nm sj || sq nm sr || sq nm su || sq nm tL)=true):pg tab (.ref r i) nm η=some (.lst r i):=jC h (kP hn rfl)
theorem yS(h:η.get r i=some (.list l))(hl:l.length<65536):tP tab (.lst r i) sC [v] η=some (.none,η.set r i (.list (l++[v]))):=jC (nJ h) (kP (by decide +kernel) (kP (lM (abm hl)) rfl))
theorem Gb(h:η.get r i=some (.list l))(h':η.get r' i'=some (.list l'))(mh:¬ (r=r'/\i=i'))(hl:l.length+l'.length<=65536):tP tab (.lst r i) vO [.ref r' i'] η=some (.none,η.set r i (.list (l++l'))):=jC (nJ h) (cnf (by decide +kernel) (kP (by decide +kernel) (jC (o:=nZ _ η) (nJ h') (kP (sP (lM hl) (FN mh)) rfl))))
theorem alz(h:η.get r i=some (.list (l++[v])))(hl:l.length<65536):tP tab (.lst r i) Sv [] η=some (v,η.set r i (.list l)):=jC (nJ h) (cnf (by decide +kernel) (cnf (by decide +kernel) (kP (by decide +kernel) (jC List.getLast?_concat (kP (lM (by rw [aE];exact hl)) (by rw [List.dropLast_concat]))))))
theorem Xd(h:η.get r i=some (.list l))(hl:l.length<=65536):mP (.ref r i) η=some (!l.isEmpty):=jC (nJ h) (kP (lM hl) rfl)
end
section
abbrev fW(C:Cfg)(p:Str×Bool):PV:=.tup [C.m p.1,.bool p.2]
structure OL(C:Cfg)(η:AH)(a:PV)(found known:List Str)(waiting:List (Str×Bool))(e:Sl)(iY:AH):Prop where
 ke:Ke η iY
 fd:iY.get η.reg η.iZ=some (.list (found.map C.m))
 kn:∃o,iY.get η.reg (η.iZ+1)=some o/\sW C o known
 wt:iY.get η.reg (η.iZ+2)=some (.list (waiting.map (fW C)))
 env:∃x y z u,e=[some a,some (.ref η.reg η.iZ),some (.ref η.reg (η.iZ+1)),some (.ref η.reg (η.iZ+2)),x,y,z,u]
theorem Xe{L:List Str}(hL:L.length<=1000){r:Nat}{x:Option PV}{a:Str}(he:∃p0 p1 p2 p3 p4 p5 p6 p7,e=[p0,p1,p2,p3,p4,p5,p6,p7])(hg:ji.get r i=some (.list (L.map C.m))){Q:PV->AH->Prop}
  (hit:∀{Q':PV->AH->Prop},Q' (.ref r i) ji->W k it e ji Q')
  (q:∀jh,Ke ji jh->jh.get ji.reg ji.iZ=some (.list ((L.map λg=>(g,false)).map (fW C)))->Q (.ref ji.reg ji.iZ) jh) :
  W k (.uN (.tup (.cons (.v 7) (.cons (.k (.bool false)) .nil))) (.one 7) it .nil [] [6,7]) e ji Q:=by
 refine aeN (he) λp0 p1 p2 p3 p4 p5 p6 p7 lH=>?_
 obtain rfl:=lH
 refine rH ?_
 refine hit ?_
 refine ⟨_,sU hg,rfl,?_⟩
 rw [sV hg,aC]
 refine uh C.m L (Bs hL) (λu:Option PV=>[p0,p1,p2,p3,p4,p5,none,u]) (λd J iY=>Ke ji iY/\iY.get ji.reg ji.iZ=some (.list ((d.map λg=>(g,false)).map (fW C)))) _ rfl (λd x iY h=>h.1.get _ _ _ hg) ⟨(Ke.refl _).add _,AH.jF _ _⟩ ?_ λx iY h=>q _ h.1 h.2
 intro d x t u iY hd I G q'
 refine jB I λh hh=>?_
 refine ⟨_,rfl,?_⟩
 wtm_at "s"
 refine ⟨λJ=>?_,λh=>nomatch h⟩
 wtm_at "W"
 have hlen:d.length<=L.length:=by rw [hd];simp
 refine ⟨_,?_,q' _ _ ⟨h.set rfl (ak _) _,AH.kX hh⟩⟩
 refine (rI hh).trans ?_
 rw [lM (by simp;exact ac8 hL hlen),cond_true,aV,aV]
 rfl
end
end
section
def yT:jn:=match yM with
|.cons _ (.cons (.qO _ b) _)=>b
|_=>.nil
section
variable{a:PV}{Q:Fl->Sl->AH->Prop}
def OG(C:Cfg)(η:AH)(a:PV)(k:Nat)(Q:Fl->Sl->AH->Prop)(w:Nat)(found known:List Str)(waiting:List (Str×Bool)):Prop:=∀e iY,OL C η a found known waiting e iY->found.length+w<=100->known.length+w<=100->waiting.length+5*w<=500->
 qv (λe η Q=>W k (.v 3) e η Q) (λe η Q=>WS k yT 0 e η Q) w e iY Q
variable{w:Nat}{found known:List Str}{pre:List (Str×Bool)}
theorem L6{b:Bool}(h:∀e iY,OL C η a found known pre e iY->(∃z u,e=[some a,some (.ref η.reg η.iZ),some (.ref η.reg (η.iZ+1)),some (.ref η.reg (η.iZ+2)),some (C.m g),some (.bool b),z,u])->found.length+w+1<=100->known.length+w+1<=100->pre.length+1+5*(w+1)<=500->
  WS k (match yT with|.cons _ r=>r|_=>.nil) 0 e iY λf e η=>match f with
  |.ret v=>Q (.ret v) e η
  |_=>qv (λe η Q=>W k (.v 3) e η Q) (λe η Q=>WS k yT 0 e η Q) w e η Q):OG C η a k Q (w+1) found known (pre++[(g,b)]):=by
 intro e iY I h1 h2 h3
 refine Ij (I.env) λx y z u lH=>?_
 obtain rfl:=lH
 have hw:=I.wt
 rw [aV] at hw
 simp only [aE,aZ,dw] at h3
 refine xD ?_
 wtm_at "s"
 refine ⟨true,?_,λJ=>?_,λh=>nomatch h⟩
 ·rw [Xd hw (by simp;exact aei h3)]
  simp
 unfold yT yM
 dsimp only
 wtm_at "W"
 refine jK (qE hw (by decide +kernel)) ?_
 wtm_at "W"
 refine qA (alz hw (by simp;exact aej h3)) ?_
 iterate 7 wtm_at "s"
 refine h _ _ ⟨I.ke.set rfl (DW) _,?_,?_,AH.kX hw,⟨_,_,_,_,rfl⟩⟩ ⟨_,_,rfl⟩ (by assumption) (by assumption) (by assumption)
 ·rw [AH.jP (DX)];exact I.fd
 ·refine jL (I.kn) λo ho hn=>?_
  exact ⟨o,by rw [AH.jP (DY)];exact ho,hn⟩
theorem alA(h:OG C η a k Q w (found++[g]) known pre):OG C η a k Q (w+1) found known (pre++[(g,true)]):=by
 refine L6 ?_
 intro e iY I o7 h1 h2 h3
 refine wD (o7) λz u v7=>?_
 obtain rfl:=v7
 unfold yT yM
 dsimp only
 wtm_at "W"
 refine jK (qE I.fd (by decide +kernel)) ?_
 wtm_at "W"
 refine qA (yS I.fd (by simp;exact aek h1)) ?_
 refine ⟨rfl,?_⟩
 wtm_at "W"
 refine h _ _ ⟨I.ke.set rfl (ael) _,?_,?_,?_,⟨_,_,_,_,rfl⟩⟩ (by simp;exact PR h1) (DZ h2) (PS h3)
 ·rw [AH.kX I.fd,aV];rfl
 ·refine jL (I.kn) λo ho hn=>?_
  exact ⟨o,by rw [AH.jP (aem)];exact ho,hn⟩
 ·rw [AH.jP (aen)];exact I.wt
variable(O:lD C)(F:WF C η)(hg:g∈C.ns)
include O F hg
theorem alB(hk:g∈known)(h:OG C η a k Q w found known pre):OG C η a k Q (w+1) found known (pre++[(g,false)]):=by
 refine L6 ?_
 intro e iY I CM h1 h2 h3
 refine wD (CM) λz u yU=>?_
 obtain rfl:=yU
 refine jL (I.kn) λo ho hn=>?_
 have n1:=(F.ke I.ke).number hg
 unfold yT yM
 dsimp only
 wtm_at "W"
 refine Ay (hn.mem ho hg) ?_
 rw [decide_eq_true hk]
 wtm_at "W"
 exact h _ _ ⟨I.ke,I.fd,I.kn,I.wt,⟨_,_,_,_,rfl⟩⟩ (DZ h1) (DZ h2) (PS h3)
theorem alC(hk:g∉known)(h:OG C η a k Q w found (known++[g]) (pre++(C.mix g).map (·,false)++[(g,true)]++(C.front g).map (·,false))):OG C η a k Q (w+1) found known (pre++[(g,false)]):=by
 refine L6 ?_
 intro e iY I CN h1 h2 h3
 refine wD (CN) λz u L7=>?_
 obtain rfl:=L7
 refine jL (I.kn) λo ho hn=>?_
 have F1:=F.ke I.ke
 have n1:=F1.number hg
 have m1:=F1.fix _ _ (O.Au g hg)
 have f1:=F1.fix _ _ (O.Av g hg)
 have lm:=O.Aq g hg
 have lf:=O.Ao g hg
 unfold yT yM
 dsimp only
 wtm_at "W"
 refine Ay (hn.mem ho hg) ?_
 rw [decide_eq_false hk]
 wtm_at "W"
 refine jL (hn.put (v:=.bool true) O (aeo h2) ho hg) λo' e1 ph=>?_
 refine jK e1 ?_
 have K1:Ke η (iY.set η.reg (η.iZ+1) o'):=I.ke.set rfl (DN) _
 have w1:(iY.set η.reg (η.iZ+1) o').get η.reg (η.iZ+2)=some (.list (pre.map (fW C))):=by rw [AH.jP (aep)];exact I.wt
 have d1:(iY.set η.reg (η.iZ+1) o').get η.reg η.iZ=some (.list (found.map C.m)):=by rw [AH.jP (aeq)];exact I.fd
 have o1:(iY.set η.reg (η.iZ+1) o').get η.reg (η.iZ+1)=some o':=AH.kX ho
 have F2:=F.ke K1
 have m2:=F2.mixed hg
 have m3:=F2.fix _ _ (O.Au g hg)
 have r1:(iY.set η.reg (η.iZ+1) o').reg=η.reg:=K1.reg
 revert w1 d1 o1 F2 m2 m3 r1 K1
 generalize iY.set η.reg (η.iZ+1) o'=ji
 intro K1 w1 d1 o1 F2 m2 m3 r1
 wtm_at "W"
 refine jK (qE w1 (by decide +kernel)) ?_
 wtm_at "W"
 refine Xe (L:=C.mix g) (PT lm) (x:=none) (a:=g) ⟨_,_,_,_,_,_,_,_,rfl⟩ m3 ?_ ?_
 ·intro Q' h
  wtm_at "W"
  exact h
 intro jh K2 hl
 have w2:=K2.get _ _ _ w1
 have n2:=AH.pR w1 r1.symm
 wtm_at "W"
 refine qA (Gb w2 hl (by rw [r1];exact PW n2) (by simp;exact aer h3 lm)) ?_
 refine ⟨rfl,?_⟩
 rw [<-aV]
 have w3:(jh.set η.reg (η.iZ+2) (.list ((pre++(C.mix g).map (·,false)).map (fW C)))).get η.reg (η.iZ+2)=some (.list ((pre++(C.mix g).map (·,false)).map (fW C))):=AH.kX w2
 have d3:(jh.set η.reg (η.iZ+2) (.list ((pre++(C.mix g).map (·,false)).map (fW C)))).get η.reg η.iZ=some (.list (found.map C.m)):=by rw [AH.jP (DX)];exact K2.get _ _ _ d1
 have o3:(jh.set η.reg (η.iZ+2) (.list ((pre++(C.mix g).map (·,false)).map (fW C)))).get η.reg (η.iZ+1)=some o':=by rw [AH.jP (DY)];exact K2.get _ _ _ o1
 have K3:Ke η (jh.set η.reg (η.iZ+2) (.list ((pre++(C.mix g).map (·,false)).map (fW C)))):=(K1.trans K2).set rfl (DW) _
 revert w3 d3 o3 K3
 generalize jh.set η.reg (η.iZ+2) (.list ((pre++(C.mix g).map (·,false)).map (fW C)))=jl
 intro w3 d3 o3 K3
 wtm_at "W"
 refine jK (qE w3 (by decide +kernel)) ?_
 wtm_at "W"
 refine qA (yS w3 (by simp;exact aes h3 lm)) ?_
 refine ⟨rfl,?_⟩
 have e4:((pre++(C.mix g).map (·,false)).map (fW C))++[.tup [C.m g,.bool true]]=(pre++(C.mix g).map (·,false)++[(g,true)]).map (fW C):=by rw [aV (l₂:=[(g,true)])];rfl
 rw [e4]
 have w4:(jl.set η.reg (η.iZ+2) (.list ((pre++(C.mix g).map (·,false)++[(g,true)]).map (fW C)))).get η.reg (η.iZ+2)=some (.list ((pre++(C.mix g).map (·,false)++[(g,true)]).map (fW C))):=AH.kX w3
 have d4:(jl.set η.reg (η.iZ+2) (.list ((pre++(C.mix g).map (·,false)++[(g,true)]).map (fW C)))).get η.reg η.iZ=some (.list (found.map C.m)):=by rw [AH.jP (DX)];exact d3
 have o4:(jl.set η.reg (η.iZ+2) (.list ((pre++(C.mix g).map (·,false)++[(g,true)]).map (fW C)))).get η.reg (η.iZ+1)=some o':=by rw [AH.jP (DY)];exact o3
 have K4:Ke η (jl.set η.reg (η.iZ+2) (.list ((pre++(C.mix g).map (·,false)++[(g,true)]).map (fW C)))):=K3.set rfl (DW) _
 revert w4 d4 o4 K4
 generalize jl.set η.reg (η.iZ+2) (.list ((pre++(C.mix g).map (·,false)++[(g,true)]).map (fW C)))=jH
 intro w4 d4 o4 K4
 have F4:=F.ke K4
 have a4:=F4.ahead hg
 have m4:=F4.fix _ _ (O.Av g hg)
 wtm_at "W"
 refine jK (qE w4 (by decide +kernel)) ?_
 wtm_at "W"
 refine Xe (L:=C.front g) (PT lf) (x:=none) (a:=g) ⟨_,_,_,_,_,_,_,_,rfl⟩ m4 ?_ ?_
 ·intro Q' h
  wtm_at "W"
  exact h
 intro jY K5 hl5
 have w5:=K5.get _ _ _ w4
 have n5:=AH.pR w4 K4.reg.symm
 wtm_at "W"
 refine qA (Gb w5 hl5 (by rw [K4.reg];exact PW n5) (by simp;exact aet h3 lm lf)) ?_
 refine ⟨rfl,?_⟩
 rw [<-aV]
 wtm_at "W"
 refine h _ _ ⟨(K4.trans K5).set rfl (DW) _,?_,⟨o',?_,ph⟩,AH.kX w5,⟨_,_,_,_,rfl⟩⟩ (DZ h1) (by simp;exact PR h2) (by simp;exact aeu h3 lm lf)
 ·rw [AH.jP (DX)];exact K5.get _ _ _ d4
 ·rw [AH.jP (DY)];exact K5.get _ _ _ o4
end
end
section
section
variable{a:PV}{Q:Fl->Sl->AH->Prop}
noncomputable def cst:Nat->Nat
|0=>0
|f+1=>2+4*cst f
theorem alD{w:Nat}{found known:List Str}(h:∀e iY,OL C η a found known [] e iY->Q .next e iY):OG C η a k Q (w+1) found known []:=by
 intro e iY I h1 h2 h3
 refine Ij (I.env) λx y z u lH=>?_
 obtain rfl:=lH
 have hw:=I.wt
 refine xD ?_
 wtm_at "s"
 refine ⟨false,?_,λh=>(nomatch h),λJ=>h _ _ I⟩
 rw [Xd hw (by simp)]
 simp
theorem L8(O:lD C)(F:WF C η){f:Nat}
  (ih:∀(g:Str) (w:Nat) (found known:List Str) (pre:List (Str×Bool)),g∈C.ns->C.rank g<f->cst f<=w->(∀w',w<=w'+cst f->w'<=w->OG C η a k Q w' (C.visit f (found,known) g).1 (C.visit f (found,known) g).2 pre)->OG C η a k Q w found known (pre++[(g,false)])) :
  ∀(n:Nat) (gs:List Str),gs.length=n->∀(w:Nat) (s:List Str×List Str) (pre:List (Str×Bool)),(∀g∈gs,g∈C.ns/\C.rank g<f)->gs.length*cst f<=w->(∀w',w<=w'+gs.length*cst f->w'<=w->OG C η a k Q w' (gs.reverse.foldl (C.visit f) s).1 (gs.reverse.foldl (C.visit f) s).2 pre)->OG C η a k Q w s.1 s.2 (pre++gs.map (·,false))
|0,gs,hn,w,s,pre,hg,hw,h=>by
  obtain rfl:=iR.mp hn
  rw [List.map_nil,bU]
  exact h w (by simp) (ak _)
|n+1,gs,hn,w,s,pre,hg,hw,h=>by
  obtain ⟨Az,g,rfl⟩:∃Az g,gs=Az++[g]:=⟨gs.dropLast,gs.getLast (by intro e;subst e;cases hn),(List.dropLast_concat_getLast _).symm⟩
  have hl:Az.length=n:=by simpa using hn
  rw [aV,<-bQ]
  have h0:=hg g (by simp)
  have e:(Az++[g]).length*cst f=Az.length*cst f+cst f:=by simp [dB]
  refine ih g w s.1 s.2 _ h0.1 h0.2 (aav hw e) λw' h1 h2=>?_
  refine L8 O F ih n Az hl w' (C.visit f (s.1,s.2) g) pre (λx hx=>hg x (by simp [hx])) (aaw hw e h1) λL9 h3 h4=>?_
  have:=h L9 (aax e h1 h3) (aay h2 h4)
  rw [List.reverse_append] at this
  exact this
theorem Ma(O:lD C)(F:WF C η):∀(f:Nat) (g:Str) (w:Nat) (found known:List Str) (pre:List (Str×Bool)),g∈C.ns->C.rank g<f->cst f<=w->(∀w',w<=w'+cst f->w'<=w->OG C η a k Q w' (C.visit f (found,known) g).1 (C.visit f (found,known) g).2 pre)->OG C η a k Q w found known (pre++[(g,false)])
|0,g,w,found,known,pre,hg,hr,hw,h=>absurd hr (uA)
|f+1,g,w,found,known,pre,hg,hr,hw,h=>by
  have ec:cst (f+1)=2+4*cst f:=rfl
  obtain ⟨w,rfl⟩:∃v,w=v+1:=⟨w - 1,by exact aaz hw ec⟩
  by_cases hk:g∈known
  ·refine alB O F hg hk ?_
   have:=h w (aaA ec) (DN)
   unfold Cfg.visit at this
   rw [if_pos hk] at this
   exact this
  ·have e:C.visit (f+1) (found,known) g=(C.mix g).reverse.foldl (C.visit f) (((C.front g).reverse.foldl (C.visit f) (found,known++[g])).1++[g],((C.front g).reverse.foldl (C.visit f) (found,known++[g])).2):=by
    show Cfg.visit C (f+1) (found,known) g=_
    rw [Cfg.visit,if_neg hk]
   rw [e] at h
   clear e
   have lf:=O.Ao g hg
   have lm:=O.Aq g hg
   have m1:(C.front g).length*cst f<=2*cst f:=b9 _ lf
   have m2:(C.mix g).length*cst f<=2*cst f:=b9 _ lm
   refine alC O F hg hk ?_
   refine L8 O F (Ma O F f) _ (C.front g) rfl w (found,known++[g]) _ (λx hx=>⟨(O.front g hg x hx).1,by have:=(O.front g hg x hx).2;exact qJ hr this⟩) (aaB ec hw m1) λw' h1 h2=>?_
   obtain ⟨w',rfl⟩:∃v,w'=v+1:=⟨w' - 1,by exact aaC ec hw m1 h1⟩
   refine alA ?_
   refine L8 O F (Ma O F f) _ (C.mix g) rfl w' (((C.front g).reverse.foldl (C.visit f) (found,known++[g])).1++[g],((C.front g).reverse.foldl (C.visit f) (found,known++[g])).2) pre (λx hx=>⟨(O.mix g hg x hx).1,by have:=(O.mix g hg x hx).2;exact qJ hr this⟩) (aaD ec hw m1 m2 h1) λL9 h3 h4=>?_
   exact h L9 (aaE ec m1 m2 h1 h3) (aaF h2 h4)
end
section
theorem alE(O:lD C)(F:WF C η)(hn:n∈C.ns)(hK:70<=K):
  jb K (.st (.ref 304)) [C.m n] η λv iY=>v=.ref η.reg η.iZ/\Ke η iY/\iY.get η.reg η.iZ=some (.list ((C.mZ n).map C.m)):=by
 refine jb.le (k:=70) ?_ hK
 refine jb.v9 7 (as:=[C.m n]) 45 akr (by wtm_at "o") rfl (by kernel_rfl) ?_;intro _ _
 unfold yM
 repeat' wtm_at "u"
 wtm_at "s"
 repeat' wtm_at "u"
 simp only [AH.ny,AH.nH]
 wtm_at "s"
 repeat' wtm_at "u"
 wtm_at "W"
 refine Ma (k:=70 - (13+45+1)) (a:=C.m n) O F 3 n 45 [] [] [] hn (by have:=O.rank n hn;exact DK this) (dc rfl) (λw' h1 h2=>?_) _ _ ⟨((Ke.refl η).add _).add _ |>.add _,?_,⟨.jm,?_,.nil⟩,?_,⟨_,_,_,_,rfl⟩⟩ (by simp) (by simp) (by simp)
 ·have:cst 3=42:=rfl
  obtain ⟨w',rfl⟩:∃v,w'=v+1:=⟨w' - 1,by exact aaG h1 this⟩
  refine alD λe iY I=>?_
  refine Ij (I.env) λx y z u o7=>?_
  obtain rfl:=o7
  wtm_at "W"
  exact jA ⟨rfl,I.ke,I.fd⟩
 ·exact AH.kO (AH.kO (AH.jF _ _))
 ·exact AH.kO (by rw [<-AH.ny η (.list [])];exact AH.jF (η.add (.list [])) _)
 ·rw [show η.iZ+2=((η.add (.list [])).add .jm).iZ by rw [AH.ny,AH.ny]]
  exact AH.jF ((η.add (.list [])).add .jm) _
end
end
section
theorem eq_nil{r:Nat}(h:η.get r i=some (.list l))(h':η.get r' i'=some (.list []))(mh:¬ (r=r'/\i=i')):mQ .Eq (.ref r i) (.ref r' i') η=some (decide (l=[])):=by
 show (nZ (.ref r i) η).bind _=_
 refine jC (nJ h) (jC (nJ h') ?_)
 cases l with
|nil=>exact kP rfl (cnf ((cM _).mp (FN mh)) rfl)
|cons a l=>exact congrArg some (decide_eq_false (List.cons_ne_nil a l)).symm
theorem add_lists{r:Nat}(h:η.get r i=some (.list l))(h':η.get r' i'=some (.list l'))(hl:l.length+l'.length<=65536):qK .Add (.ref r i) (.ref r' i') η=some (.ref η.reg η.iZ,η.add (.list (l++l'))):=jC (nJ h) (jC (o:=nZ (.ref r' i') η) (nJ h') (kP (lM hl) rfl))
theorem AA(n:Str)(b:List Str)(fl:Bool)(x:Str)(t:List Str):Cfg.oS n b fl (x::t)=if (fl && !decide (x=n))=true\/x∉b then x::Cfg.oS n b (fl && !decide (x=n)) t else Cfg.oS n b (fl && !decide (x=n)) t:=rfl
theorem Xf(n:Str)(b:List Str):∀(l:List Str) (fl:Bool),(Cfg.oS n b fl l).length<=l.length
|[],_=>ak _
|x::t,fl=>by
  rw [AA]
  have:=Xf n b t (fl && !decide (x=n))
  split<;>simp<;>(first|assumption|exact zo this)
theorem CP(n:Str)(b:List Str):∀(l:List Str) (fl:Bool) (x:Str),x∈Cfg.oS n b fl l->x∈l
|[],_,x,h=>h
|y::t,fl,x,h=>by
  rw [AA] at h
  split at h
  ·rcases aB.mp h with rfl|h
   ·exact bL
   ·exact bu _ (CP n b t _ x h)
  ·exact bu _ (CP n b t _ x h)
structure ML(C:Cfg)(η:AH)(n:Str)(b:List Str)(N1 N2:Nat)(o:AO)(d acc:List Str)(fl:Bool)(iY:AH):Prop where
 ke:Ke η iY
 fd:iY.get 2 N2=some (.list (acc.map C.m))
 ow:iY.get 2 (N2+1)=some (.list ((C.mZ n).map C.m))
 kn:iY.get 2 N1=some o
 go:∀t,C.mZ n=d++t->Cfg.oS n b true (C.mZ n)=acc++Cfg.oS n b fl t
 len:acc.length<=d.length
theorem alF(O:lD C)(F:WF C η)(hn:n∈C.ns){b:List Str}(hb:∀x∈b,x∈C.ns)(CQ:b.length<=1000)(CT:(C.mZ n).length<=1000)(Xg:∀x∈C.mZ n,x∈C.ns){r:Nat}(hg:η.get r i=some (.list (b.map C.m)))(hr:r=2)(hK:90<=K):
  jb K (.st (.ref 314)) [C.m n,.ref r i] η λv iY=>∃j,v=.ref 2 j/\Ke η iY/\iY.get 2 j=some (.list ((C.oU n b).map C.m)):=by
 refine jb.le (k:=90) ?_ hK
 refine jb.v9 7 (as:=[C.m n,.ref r i]) 0 akt (by wtm_at "o") rfl (by kernel_rfl) ?_;intro _ _
 unfold FE
 have mj:=F.reg
 have fa:=F.ahead hn
 have fl:=F.fix _ _ (O.Av n hn)
 wtm_at "W"
 refine jK (eq_nil (AH.kO fl) (AH.jF _ _) (by rw [mj];exact PJ)) ?_
 have e1:decide ((C.front n).map C.m=[])=decide (C.front n=[]):=by simp
 rw [e1]
 have K1:Ke η (η.add (.list [])):=(Ke.refl η).add _
 have go:C.oU n b=Cfg.oS n b true (C.mZ n)++b.filter (λg=>decide (g∉Cfg.oS n b true (C.mZ n)))->∀ji,Ke η ji->WS (90 - (11+0+1)) (match FE with|.cons _ r=>r|_=>.nil) 0 (o6 [C.m n,.ref r i] 7) ji (nc λv iY=>∃j,v=.ref 2 j/\Ke η iY/\iY.get 2 j=some (.list ((C.oU n b).map C.m))):=by
  intro hm ji K1
  rw [hm]
  clear hm
  unfold FE
  dsimp only
  have F1:=F.ke K1
  wtm_at "W"
  refine (Xc O F1 hb (ad4 CQ) (K1.get _ _ _ hg) (by wtm_at "o")).mono λv jh ⟨h1,K2,o,ho,hD⟩=>?_
  subst h1
  have uU:=K1.trans K2
  have ik:=AH.pR ho K2.reg.symm
  have F3:=F.ke (uU.add (.list []))
  wtm_at "W"
  refine (alE O F3 hn (by wtm_at "o")).mW λjH K4 hw=>?_
  have r2:jh.reg=2:=uU.reg.trans mj
  have r1:ji.reg=2:=K1.reg.trans mj
  have fd:=K4.get _ _ _ (AH.jF jh (.list []))
  have kn:=K4.get _ _ _ (AH.kO (o:=.list []) ho)
  have K5:=(uU.add (.list [])).trans K4
  have n1:=K1.iZ
  have n2:=K2.iZ
  simp only [AH.ny,AH.nH] at hw ⊢
  rw [r2] at hw fd ⊢
  rw [r1] at kn ⊢
  have alG:=ad5 ik n1
  refine Ax C.m (C.mZ n) (Bs CT) (λx:Bool×Option PV×Option PV×Option PV×Option PV=>[some (C.m n),some (.ref r i),some (.ref 2 ji.iZ),some (.ref 2 jh.iZ),some (.bool x.1),x.2.1,x.2.2.1,x.2.2.2.1,x.2.2.2.2]) (λd x iY=>∃acc,ML C η n b ji.iZ jh.iZ o d acc x.1 iY) (true,_,_,_,_) rfl (λd x iY h=>h.elim λacc I=>I.ow) ⟨[],K5,fd,hw,kn,λt ht=>by rw [ht];rfl,ak _⟩ ?_ ?_
  ·intro d x t y iY hd I G q
   refine oK I λacc I=>?_
   obtain ⟨fl,u,w,x',y⟩:=y
   refine ⟨_,rfl,?_⟩
   have hx:x∈C.ns:=Xg x (by simp [hd])
   have F6:=F.ke I.ke
   have nB:d.length<(C.mZ n).length:=by rw [hd];simp
   have sX:=I.go _ hd
   rw [AA] at sX
   have nx:=F6.number hx
   have flag:∀Q:PV->AH->Prop,Q (.bool (fl && !decide (x=n))) iY->W (90 - (11+0+1)) (.vX true (.v 4) (.no (.call (.st (.ref 272)) (.cons (.v 5) (.cons (.v 0) .nil))))) (put [some (C.m n),some (.ref r i),some (.ref 2 ji.iZ),some (.ref 2 jh.iZ),some (.bool fl),u,w,x',y] 5 (some (C.m x))) iY Q:=by
    intro Q q
    induction fl using Bool.casesOn with
   |false=>
     wtm_at "W"
     exact q
   |true=>
     wtm_at "W"
     refine (Xb O F6 hx hn (by wtm_at "o")).same ?_
     exact ⟨_,rfl,q⟩
   wtm_at "s";wtm_at "s"
   refine flag _ ?_
   clear flag
   have q1:∀{xq uV e kR},(e=[some (C.m n),some (.ref r i),some (.ref 2 ji.iZ),some (.ref 2 jh.iZ),some (.bool uV),some (C.m x),w,x',y])->Ke η kR->kR.get 2 jh.iZ=some (.list (xq.map C.m))->kR.get 2 (jh.iZ+1)=some (.list ((C.mZ n).map C.m))->kR.get 2 ji.iZ=some o->Cfg.oS n b true (C.mZ n)=xq++Cfg.oS n b uV t->xq.length<=d.length+1->G e kR:=λ{xq uV e kR} he a1 a2 a3 a4 a5 a6=>he▸q (uV,_,_,_,_) kR ⟨xq,a1,a2,a3,a4,λt' Mb=>by
    have e:t=t':=gC ((bQ d [x] t).trans (hd.symm.trans Mb))
    exact e▸a5,by rw [aE];exact a6⟩
   generalize (fl && !decide (x=n))=uV at sX ⊢
   have lE:=hD.mem I.kn hx
   have K7:Ke η (iY.set 2 jh.iZ (.list (acc.map C.m++[C.m x]))):=I.ke.set mj.symm alG _
   have g2:(iY.set 2 jh.iZ (.list (acc.map C.m++[C.m x]))).get 2 jh.iZ=some (.list ((acc++[x]).map C.m)):=by rw [AH.kX I.fd,aV];rfl
   have g3:(iY.set 2 jh.iZ (.list (acc.map C.m++[C.m x]))).get 2 (jh.iZ+1)=some (.list ((C.mZ n).map C.m)):=by rw [AH.jP (ad6)];exact I.ow
   have g4:(iY.set 2 jh.iZ (.list (acc.map C.m++[C.m x]))).get 2 ji.iZ=some o:=by rw [AH.jP (Ow ik)];exact I.kn
   have add:∀uV,Cfg.oS n b true (C.mZ n)=acc++x::Cfg.oS n b uV t->(∀{e},(e=[some (C.m n),some (.ref r i),some (.ref 2 ji.iZ),some (.ref 2 jh.iZ),some (.bool uV),some (C.m x),w,x',y])->G e (iY.set 2 jh.iZ (.list (acc.map C.m++[C.m x])))):=λuV h {e} he=>q1 he K7 g2 g3 g4 (h.trans (List.append_cons ..)) (by rw [aE];exact aL I.len)
   have len:=I.len
   wtm_at "W"
   induction uV using Bool.casesOn with
  |true=>
    wtm_at "W"
    rw [if_pos (.inl rfl)] at sX
    refine jK (qE I.fd (by decide +kernel)) ?_
    wtm_at "W"
    refine qA (yS I.fd (by simp;exact PK CT len nB)) ⟨rfl,?_⟩
    wtm_at "W"
    exact add true sX rfl
  |false=>
    wtm_at "W"
    refine Ay lE ?_
    by_cases Gd:x∈b
    ·rw [decide_eq_true Gd]
     wtm_at "W"
     rw [if_neg (by simp [Gd])] at sX
     exact q1 rfl I.ke I.fd I.ow I.kn sX (c7 len)
    ·rw [decide_eq_false Gd]
     wtm_at "W"
     rw [if_pos (.inr Gd)] at sX
     refine jK (qE I.fd (by decide +kernel)) ?_
     wtm_at "W"
     refine qA (yS I.fd (by simp;exact PK CT len nB)) ⟨rfl,?_⟩
     wtm_at "W"
     exact add false sX rfl
  ·intro x iY I
   refine oK I λacc I=>?_
   obtain ⟨fl,u,w,x,y⟩:=x
   have K6:=I.ke
   have h1:=I.fd
   have h5:=I.len
   have sX:=I.go [] (by simp)
   have e0:Cfg.oS n b fl []=[]:=rfl
   rw [e0,bU] at sX
   rw [sX]
   have F6:=F.ke K6
   have z0:∀x∈acc,x∈C.ns:=λx hx=>Xg x (CP n b _ true x (by rw [sX];exact hx))
   wtm_at "W"
   refine (Xc O F6 z0 (ad7 CT h5) h1 (by wtm_at "o")).mono λv lX ⟨g1,K7,o',Xh,hD'⟩=>?_
   subst g1
   have Ge:=K6.trans K7
   wtm_at "W"
   refine rH ?_
   wtm_at "W"
   have Md:=Ge.get _ _ _ hg
   refine ⟨_,sU Md,rfl,?_⟩
   rw [sV Md,aC]
   have alH:iY.reg=2:=K6.reg.trans mj
   have Xi:lX.reg=2:=Ge.reg.trans mj
   have b7:=AH.pR Xh K7.reg.symm
   have b6:=AH.pR h1 alH.symm
   refine uh C.m b (Bs CQ) (λx:Option PV=>[some (C.m n),some (.ref r i),some (.ref 2 ji.iZ),some (.ref 2 jh.iZ),some (.bool fl),u,some (.ref iY.reg iY.iZ),none,x]) (λd J kR=>Ke lX kR/\kR.get lX.reg lX.iZ=some (.list ((d.filter λg=>decide (g∉acc)).map C.m))) _ rfl (λd x kR h=>h.1.get _ _ _ Md) ⟨(Ke.refl _).add _,AH.jF _ _⟩ ?_ ?_
   ·intro d x t x' kR hd I G q
    refine jB I λK8 CV=>?_
    have hx:x∈C.ns:=hb x (by simp [hd])
    have F8:=F.ke (Ge.trans K8)
    have nx:=F8.number hx
    have nB:d.length<b.length:=by rw [hd];simp
    have pS:=bV (λg=>decide (g∉acc)) d
    refine ⟨_,rfl,?_⟩
    wtm_at "W"
    refine Ay (hD'.mem (K8.get _ _ _ Xh) hx) ?_
    by_cases Gf:x∈acc
    ·rw [decide_eq_true Gf]
     refine ⟨false,rfl,λh=>(nomatch h),λJ=>⟨λh=>(nomatch h),λJ=>q _ _ ⟨K8,?_⟩⟩⟩
     rw [CV,b8]
     simp [Gf]
    ·rw [decide_eq_false Gf]
     refine ⟨true,rfl,λJ=>?_,λh=>(nomatch h)⟩
     wtm_at "s"
     refine ⟨λJ=>?_,λh=>(nomatch h)⟩
     wtm_at "W"
     refine ⟨_,?_,q _ _ ⟨K8.set rfl (ak _) _,AH.kX CV⟩⟩
     refine (rI CV).trans ?_
     rw [lM (by simp only [aC];exact PL CQ nB pS),cond_true,b8]
     simp [Gf]
   ·intro x' kR I
    refine jB I λK8 CV=>?_
    have h18:=K8.get _ _ _ (K7.get _ _ _ h1)
    have ra:=K8.reg
    have pS:=bV (λg=>decide (g∉acc)) b
    refine lS (add_lists h18 CV (by simp only [aC];exact ad8 CQ CT h5 pS)) ?_
    wtm_at "W"
    refine jA ⟨kR.iZ,by rw [ra,Xi],(Ge.trans K8).add _,?_⟩
    have:kR.reg=2:=ra.trans Xi
    rw [<-this,AH.jF,aV]
 have F1:=F.ke K1
 have fm:=F1.mixed hn
 have fml:=F1.fix _ _ (O.Au n hn)
 by_cases hf:C.front n=[]
 ·rw [decide_eq_true hf]
  wtm_at "W"
  have r1:(η.add (.list [])).reg=2:=mj
  refine jK (eq_nil (AH.kO fml) (AH.jF _ _) (by rw [r1];exact PJ)) ?_
  have e1:decide ((C.mix n).map C.m=[])=decide (C.mix n=[]):=by simp
  rw [e1]
  by_cases hm:C.mix n=[]
  ·rw [decide_eq_true hm]
   wtm_at "W"
   refine lS (add_lists (AH.jF _ _) (((K1.add _).add _).get _ _ _ hg) (by simp;exact ad9 CQ)) ?_
   wtm_at "W"
   refine jA ⟨_,by rw [AH.nH,AH.nH,AH.nH,mj],((K1.add _).add _).add _,?_⟩
   have:=AH.jF (((η.add (.list [])).add (.list [])).add (.list [C.m n])) (.list ([C.m n]++b.map C.m))
   rw [AH.nH,AH.nH,AH.nH,mj] at this
   rw [this]
   unfold Cfg.oU
   rw [if_pos ⟨hf,hm⟩]
   rfl
  ·rw [decide_eq_false hm]
   iterate 2 wtm_at "s"
   exact go (by unfold Cfg.oU;rw [if_neg (λh=>hm h.2)]) _ (K1.add _)
 ·rw [decide_eq_false hf]
  iterate 3 wtm_at "s"
  exact go (by unfold Cfg.oU;rw [if_neg (λh=>hf h.1)]) _ K1
end
section
structure jQ(η iY:AH):Prop where
 reg:iY.reg=η.reg
 iZ:η.iZ<=iY.iZ
 get:∀r i o,r≠1->η.get r i=some o->iY.get r i=some o
 ent:∀i c fs,(c=254\/c=333)->η.get 1 i=some (.inst c fs)->iY.get 1 i=some (.inst c fs)
theorem Ke.ka(h:Ke η iY):jQ η iY:=⟨h.reg,h.iZ,λr i o J e=>h.get r i o e,λi c fs J e=>h.get _ _ _ e⟩
theorem jQ.refl(η:AH):jQ η η:=(Ke.refl η).ka
theorem jQ.trans{a b c:AH}(h:jQ a b)(k:jQ b c):jQ a c:=⟨k.reg.trans h.reg,ah h.iZ k.iZ,λr i o hr e=>k.get _ _ _ hr (h.get _ _ _ hr e),λi c fs hc e=>k.ent _ _ _ hc (h.ent _ _ _ hc e)⟩
theorem jQ.inst(S:jQ η iY):∀r i c fs,(c=254\/c=333)->η.get r i=some (.inst c fs)->iY.get r i=some (.inst c fs):=λr i c fs hc h=>by
 by_cases e:r=1
 ·subst e;exact S.ent _ _ _ hc h
 ·exact S.get _ _ _ e h
theorem jQ.Mf{a b:AH}(h:jQ a b)(o:AO)(hn:∀c fs,(c=254\/c=333)->b.get 1 i≠some (.inst c fs)):jQ a (b.set 1 i o):=by
 refine ⟨by rw [AH.yO,h.reg],by rw [AH.Al];exact h.iZ,λr' i' o' qD e=>?_,λi' c fs hc e=>?_⟩
 ·rw [AH.jP]
  ·exact h.get _ _ _ qD e
  ·rintro ⟨rfl,rfl⟩
   exact qD rfl
 ·have e':=h.ent _ _ _ hc e
  rw [AH.jP]
  ·exact e'
  ·rintro ⟨_,rfl⟩
   exact hn _ _ hc e'
section
theorem WF.alI(O:lD C)(F:WF C η)(hn:n∈C.ns)(hg:η.get 2 i=some (.list ((C.line n).map C.m))):∃iY,sf tab (C.m n) ni (.tup [.int C.pC,.ref 2 i]) η=some iY/\WF C iY/\jQ η iY:=by
 refine jL (F.mod n hn) λfs a b=>?_
 have e:sf tab (C.m n) ni (.tup [.int C.pC,.ref 2 i]) η=some (η.set 1 (C.j8 n) (.inst 226 (jz fs ni (.tup [.int C.pC,.ref 2 i])))):=by
  exact jC (o:=gR (C.m n)) rfl (jC (FL a) (jC sR (kP (sP (by decide +kernel) (by rw [b.len];rfl)) rfl)))
 refine ⟨_,e,?_,(jQ.refl η).Mf _ (λc sY hc h=>by rw [a] at h;cases h;rcases hc with h|h<;>cases h)⟩
 have g2:∀i o,η.get 2 i=some o->(η.set 1 (C.j8 n) (.inst 226 (jz fs ni (.tup [.int C.pC,.ref 2 i])))).get 2 i=some o:=λi o h=>by rw [AH.jP (Ic)];exact h
 have gi:∀r i c sY,(c=254\/c=333)->η.get r i=some (.inst c sY)->¬ (r=1/\i=C.j8 n):=by
  rintro r i c sY hc h ⟨rfl,rfl⟩
  rw [a] at h
  cases h
  rcases hc with h|h<;>cases h
 refine ⟨(AH.yO _ _ _ _).trans F.reg,λn' ph=>?_,λn' ph=>(F.lP n' ph).ke (λr i c sY hc h=>?_) λo h=>?_,λi' o h=>?_⟩
 ·by_cases q:n'=n
  ·subst q
   refine ⟨_,AH.kX a,?_⟩
   have g:∀x,x≠ni->ja (jz fs ni (.tup [.int C.pC,.ref 2 i])) x=ja fs x:=λx hx=>by rw [vC,if_neg hx]
   have kp:ja (jz fs ni (.tup [.int C.pC,.ref 2 i])) ni=some (.tup [.int C.pC,.ref 2 i]):=by rw [vC,if_pos rfl]
   refine jL (b.kept) λkv hk J=>?_
   refine ⟨?_,?_,?_,?_,?_,?_,?_,?_,?_,?_,⟨_,kp,.inr ⟨i,rfl,?_⟩⟩,?_,?_⟩
   ·rw [g _ (by decide +kernel)];exact b.number
   ·rw [g _ (by decide +kernel)];exact b.xE
   ·rw [g _ (by decide +kernel)];exact b.parent
   ·rw [g _ (by decide +kernel)];exact b.attached
   ·rw [g _ (by decide +kernel)];exact b.own
   ·rw [g _ (by decide +kernel)];exact b.owner
   ·rw [g _ (by decide +kernel)];exact b.native
   ·rw [g _ (by decide +kernel)];exact b.mixed
   ·rw [g _ (by decide +kernel)];exact b.ahead
   ·rw [g _ (by decide +kernel)];exact b.methods
   ·rw [AH.jP (Ic)];exact hg
   ·rw [g _ (by decide +kernel)];exact b.CL
   ·rw [Ey,hk];exact b.len
  ·refine jL (F.mod n' ph) λsY a' b'=>?_
   refine ⟨sY,?_,b'.ke λi o h=>by rw [AH.jP (Ic)];exact h⟩
   rw [AH.jP]
   ·exact a'
   ·rintro ⟨_,h⟩
    exact q (O.FW _ ph _ hn h)
 ·rw [AH.jP (gi _ _ _ _ hc h)];exact h
 ·rw [AH.jP]
  ·exact h
  ·rintro ⟨_,q⟩
   rw [q,a] at h
   cases h
   have:=F.lP n' ph
   unfold ug at this
   rw [q,a] at this
   split at this
   ·cases this
   ·rcases this with ⟨l,u,v,x,_⟩|⟨_,x⟩<;>cases x
 ·rw [AH.jP]
  ·exact F.fix _ _ h
  ·rintro ⟨_,q⟩
   rw [q,O.W2 n hn] at h
   cases h
end
section
theorem WF.alJ(O:lD C)(F:WF C η)(hn:n∈C.ns){s o:Str}(hh:C.has n=some (s,g,o))(hd:η.get 1 (C.ku n)=some .jm)(hv:kZ C η v s g o):∃iY,mV (.ref 1 (C.ku n)) (.str C.name) v η=some iY/\WF C iY/\jQ η iY:=by
 have e:mV (.ref 1 (C.ku n)) (.str C.name) v η=some (η.set 1 (C.ku n) (.sd [(C.name,v)] 0)):=by
  exact Am hd
 refine ⟨_,e,?_,(jQ.refl η).Mf _ (λc sY hc h=>by rw [hd] at h;cases h)⟩
 have S:jQ η (η.set 1 (C.ku n) (.sd [(C.name,v)] 0)):=(jQ.refl η).Mf _ (λc sY hc h=>by rw [hd] at h;cases h)
 refine ⟨S.reg.trans F.reg,λn' ph=>?_,λn' ph=>?_,λi' o' h=>?_⟩
 ·refine jL (F.mod n' ph) λsY a' b'=>?_
  refine ⟨sY,?_,b'.ke λi o h=>S.get _ _ _ (dc rfl) h⟩
  rw [AH.jP]
  ·exact a'
  ·rintro ⟨_,h⟩
   rw [h,hd] at a'
   cases a'
 ·by_cases q:n'=n
  ·subst q
   unfold ug
   rw [hh]
   refine .inl ⟨_,_,v,AH.kX hd,?_,hv.ke S.inst⟩
   unfold ja
   rw [jS.mpr rfl]
   rfl
  ·refine (F.lP n' ph).ke S.inst λo h=>?_
   rw [AH.jP]
   ·exact h
   ·rintro ⟨_,h⟩
    exact q (O.As _ ph _ hn h)
 ·rw [AH.jP]
  ·exact F.fix _ _ h
  ·rintro ⟨_,q⟩
   rw [q,O.W3 n hn] at h
   cases h
end
section
variable{w:Nat}{b:jn}
theorem alK{α:Type}(f:α->PV)(all:List α){r:Nat}(hl:all.length<=65536){Q:QS}(Inv:List α->Sl->AH->Prop)
  (hI:∀d e η,Inv d e η->η.get r i=some (.list (all.reverse.map f))) (h0:Inv [] e η)
  (step:∀d x t e η,all=d++x::t->Inv d e η->∀G:Sl->AH->Prop,(∀e η,Inv (d++[x]) e η->G e η)->∃e',tg.bind (f x) e=some e'/\WS k b w e' η (Aw Q G))
  (fin:∀e η,Inv all e η->Q .next e η):∃S,ro true (.ref r i) η=some S/\oO (λe η Q=>WS k b w e η Q) tg S (S.len η+1) 0 e η Q:=by
 have e0:(all.reverse.map f).length=all.length:=by rw [aC,fB]
 refine ⟨.rev r i all.length,?_,FZ (f:=f) (λd t e η ha I=>?_) step fin [] _ e η rfl (bG _) h0⟩
 ·show (η.lst r i).bind _=_
  exact jC (nJ (hI _ _ _ h0)) (kP (lM (e0▸hl)) (by rw [e0]))
 ·cases t with
 |nil=>
   refine cnf (fh.mpr λz=>?_) rfl
   rw [ha,bU] at z
   exact absurd (uE z) (aM _)
 |cons x t=>
   have qx:d.length<all.length:=by rw [ha,aE];exact bf (bO _)
   refine kP (dm.mpr qx) (jC (nJ (hI _ _ _ I)) (kP (lM (e0▸hl)) ?_))
   rw [cQ,List.getElem?_reverse (adj qx),show all.length - 1 - (all.length - 1 - d.length)=d.length by exact adk qx,ha,fk (ak _),fY]
   rfl
end
end
section
theorem qU{r:Nat}{c:Addr}{a:Str}(h:η.get r i=some (.inst c fs))(hf:(jv tab.fields c).map (oN · a)=some true)(hp:ja fs a=some p)(hh:oh p=true):jV tab (.ref r i) a η=some p:=by
 refine jL (eS.mp hf) λns h1 h2=>?_
 exact sS h h1 h2 hp hh
section
noncomputable def Cfg.qe(C:Cfg):Option Str->List Str
|none=>[]
|some p=>C.line p
noncomputable def cnt:Nat->Nat
|0=>0
|f+1=>1+4*cnt f
theorem Xj(O:lD C):∀(f:Nat) (s:List Str×List Str) (g:Str),g∈C.ns->(∀x∈s.1,x∈C.ns)->(∀x∈(C.visit f s g).1,x∈C.ns)/\(C.visit f s g).1.length<=s.1.length+cnt f
|0,s,g,_,h=>⟨h,by show s.1.length<=_;simp [cnt]⟩
|f+1,s,g,hg,h=>by
  have fold:∀(gs:List Str) (s:List Str×List Str),(∀x∈gs,x∈C.ns)->(∀x∈s.1,x∈C.ns)->(∀x∈(gs.foldl (C.visit f) s).1,x∈C.ns)/\(gs.foldl (C.visit f) s).1.length<=s.1.length+gs.length*cnt f:=by
   intro gs
   induction gs with
  |nil=>intro s _ h;exact ⟨h,by simp⟩
  |cons g gs ih=>
    intro s hg h
    refine jB (Xj O f s g (hg g (by simp)) h) λa b=>?_
    refine jB (ih (C.visit f s g) (λx hx=>hg x (by simp [hx])) a) λc d=>?_
    refine ⟨c,ah d ?_⟩
    simp only [aZ,dB]
    exact abX b
  unfold Cfg.visit
  split
  ·exact ⟨h,by exact abY⟩
  ·dsimp only
   refine jB (fold (C.front g).reverse (s.1,s.2++[g]) (λx hx=>(O.front g hg x (by simpa using hx)).1) h) λa b=>?_
   obtain ⟨c,d⟩:=fold (C.mix g).reverse (((C.front g).reverse.foldl (C.visit f) (s.1,s.2++[g])).1++[g],((C.front g).reverse.foldl (C.visit f) (s.1,s.2++[g])).2) (λx hx=>(O.mix g hg x (by simpa using hx)).1) (λx hx=>by
    rcases aH.mp hx with h|h
    ·exact a x h
    ·rw [aJ.mp h];exact hg)
   refine ⟨c,ah d ?_⟩
   simp only [aE,fB,aZ,dw] at b ⊢
   have lf:=O.Ao g hg
   have lm:=O.Aq g hg
   have m1:(C.front g).length*cnt f<=2*cnt f:=b9 _ lf
   have m2:(C.mix g).length*cnt f<=2*cnt f:=b9 _ lm
   have:cnt (f+1)=1+4*cnt f:=rfl
   exact abZ b m1 m2 this
theorem Xk(O:lD C)(hn:n∈C.ns):(∀x∈C.mZ n,x∈C.ns)/\(C.mZ n).length<=21:=by
 have:=Xj O 3 ([],[]) n hn (λx hx=>nomatch hx)
 exact this
theorem Xl(O:lD C)(hn:n∈C.ns){b:List Str}(hb:∀x∈b,x∈C.ns):(∀x∈C.oU n b,x∈C.ns)/\(C.oU n b).length<=b.length+21:=by
 unfold Cfg.oU
 split
 ·refine ⟨λx hx=>?_,by simp⟩
  rcases aB.mp hx with rfl|h
  ·exact hn
  ·exact hb x h
 ·dsimp only
  have h1:=CP n b (C.mZ n) true
  have h2:=Xf n b (C.mZ n) true
  obtain ⟨h3,h4⟩:=Xk O hn
  have h5:=bV (λg=>decide (g∉Cfg.oS n b true (C.mZ n))) b
  refine ⟨λx hx=>?_,?_⟩
  ·rcases aH.mp hx with h|h
   ·exact h3 x (h1 x h)
   ·exact hb x (cC.mp h).1
  ·rw [aE]
   exact ab0 h2 h4 h5
theorem AB(O:lD C)(d:Nat):∀{n:Str},n∈C.ns->C.depth n<=d->(∀x∈C.line n,x∈C.ns)/\(C.line n).length<=21*(d+1):=by
  induction d using Nat.strongRecOn with|ind d ih=>?_
  intro n hn hd
  rw [O.line n hn]
  induction hp:C.jt n using Option.casesOn with
 |none=>
   have:=Xl O hn (b:=[]) (λx hx=>nomatch hx)
   refine ⟨this.1,ah this.2 ?_⟩
   simp only [dw];exact ab1
 |some p=>
   obtain ⟨h1,h2⟩:=O.jt n hn p hp
   obtain ⟨d,rfl⟩:∃k,d=k+1:=⟨d - 1,by exact ab2 hd h2⟩
   obtain ⟨h3,h4⟩:=ih d (bG d) h1 (ab3 h2 hd)
   have:=Xl O hn h3
   refine ⟨this.1,ah this.2 ?_⟩
   exact ab4 h4
theorem alL(O:lD C){o:Option Str}(ho:∀n,o=some n->n∈C.ns):(∀x∈C.qe o,x∈C.ns)/\(C.qe o).length<=210:=by
 induction o using Option.casesOn with
|none=>exact ⟨λx hx=>(nomatch hx),by simp [Cfg.qe]⟩
|some n=>
  have:=AB O 9 (ho n rfl) (by have:=O.deep n (ho n rfl);exact yd this)
  exact this
inductive Path(C:Cfg)(n:Str):List Str->Option Str->Prop
|nil:Path C n [] (some n)
|snoc {ws:List Str} {x:Str}:Path C n ws (some x)->x∈C.ns->Path C n (ws++[x]) (C.jt x)
theorem Path.back{x:Str}{ws vs:List Str}{o:Option Str}(h:Path C n vs o)(e:vs=ws++[x]):Path C n ws (some x)/\x∈C.ns/\o=C.jt x:=by
 cases h with
|nil=>simp at e
|snoc h hx=>
  refine jB (List.append_inj' e rfl) λlH e2=>?_
  obtain rfl:=lH
  cases e2
  exact ⟨h,hx,rfl⟩
theorem Path.start{o:Option Str}(h:Path C n [] o):o=some n:=by
 generalize hv:([]:List Str)=vs at h
 cases h with
|nil=>rfl
|snoc=>simp at hv
end
def Xm:jn:=match Ah with
|.cons _ (.cons (.qO _ b) _)=>b
|_=>.nil
def Xn:X:=match Ah with
|.cons _ (.cons (.qO t _) _)=>t
|_=>.k .none
section
variable{Q:Fl->Sl->AH->Prop}
structure LX(C:Cfg)(η:AH)(n:Str)(ws:List Str)(o:Option Str)(e:Sl)(iY:AH):Prop where
 ke:Ke η iY
 wt:iY.get 2 η.iZ=some (.list (ws.map C.m))
 path:Path C n ws o
 ns:∀x,o=some x->x∈C.ns
 env:∃y z,e=[some (.ref 1 C.jI),some (C.opt o),some (.ref 2 η.iZ),y,z]
theorem Xo(O:lD C)(F:WF C η)(h:∀ws o e iY,LX C η n ws o e iY->ws.length<=100->(∀x,o=some x->∃j,jV tab (C.m x) ni iY=some (.tup [.int C.pC,.ref 2 j])/\iY.get 2 j=some (.list ((C.line x).map C.m)))->Q .next e iY):
  ∀(w:Nat) (ws:List Str) (o:Option Str) (e:Sl) (iY:AH),LX C η n ws o e iY->(∀x,o=some x->C.depth x+1<w)->0<w->ws.length+w<=100->qv (λe η Q=>W k Xn e η Q) (λe η Q=>WS k Xm 0 e η Q) w e iY Q
|0,_,_,_,_,_,_,hw,_=>absurd hw (dc rfl)
|w+1,ws,o,e,iY,I,hd,hw,hb=>by
  refine wD (I.env) λy z yU=>?_
  obtain rfl:=yU
  have F':=F.ke I.ke
  refine vo (O.jI) λwsf Mg Mh J=>?_
  have hv:jV tab (.ref 1 C.jI) sE iY=some (.int C.pC):=qU (F'.fix _ _ Mg) (by kernel_rfl) Mh rfl
  refine xD ?_
  unfold Xn Ah
  dsimp only
  induction o using Option.casesOn with
 |none=>
   wtm_at "W"
   exact h _ _ _ _ I (Pj hb) (λx hx=>nomatch hx)
 |some x=>
   have hx:=I.ns x rfl
   refine jL (F'.kept hx) λkv hk hk'=>?_
   have hp:=F'.parent hx
   have hh:=hd x rfl
   rw [show C.opt (some x)=C.m x from rfl]
   rcases hk' with rfl|⟨j,rfl,hj⟩
   ·wtm_at "W"
    unfold Xm Ah
    dsimp only
    wtm_at "W"
    refine jK (qE I.wt (by decide +kernel)) ?_
    wtm_at "W"
    refine qA (yS I.wt (by simp;exact ab5 hb)) ⟨rfl,?_⟩
    have K1:Ke η (iY.set 2 η.iZ (.list (ws.map C.m++[C.m x]))):=I.ke.set F.reg.symm (ak _) _
    have Mi:=(F.ke K1).parent hx
    wtm_at "W"
    refine Xo O F h w (ws++[x]) (C.jt x) _ _ ⟨K1,?_,.snoc I.path hx,λp hp=>(O.jt x hx p hp).1,⟨_,_,rfl⟩⟩ (λp hp=>?_) (Ot hh) (by simp;exact ab6 hb)
    ·rw [AH.kX I.wt,aV];rfl
    ·have:=(O.jt x hx p hp).2
     exact ab7 hh this
   ·have it:jD tab (.tup [.int C.pC,.ref 2 j]) (.int 0) iY=some (.int C.pC):=rfl
    wtm_at "W"
    refine ⟨false,by show some (!decide (C.pC=C.pC))=_;simp,λh=>(nomatch h),λJ=>h _ _ _ _ I (Pj hb) λy hy=>?_⟩
    refine xs hy λCN=>?_
    try clear hy
    obtain rfl:=CN
    exact ⟨j,hk,hj⟩
theorem Xp(O:lD C)(F:WF C η)(hn:n∈C.ns)(hK:120<=K):
  jb K (.st (.ref 321)) [.ref 1 C.jI,C.m n] η λv iY=>∃j,v=.ref 2 j/\WF C iY/\jQ η iY/\iY.get 2 j=some (.list ((C.line n).map C.m)):=by
 refine jb.le (k:=120) ?_ hK
 refine jb.v9 3 (as:=[.ref 1 C.jI,C.m n]) 15 aku (by wtm_at "o") rfl (by kernel_rfl) ?_;intro _ _
 unfold Ah
 have hr:=F.reg
 repeat' wtm_at "u"
 rw [hr]
 wtm_at "W"
 have g0:=AH.jF η (.list [])
 rw [hr] at g0
 refine Xo (n:=n) O F (λws o e iY I LH hkp=>?_) 15 [] (some n) _ _ ⟨(Ke.refl η).add _,g0,.nil,λx hx=>by cases hx;exact hn,⟨_,_,rfl⟩⟩ (λx hx=>by cases hx;have:=O.deep n hn;exact ab8 this) (dc rfl) (by simp)
 refine wD (I.env) λy z qq9=>?_
 obtain rfl:=qq9
 have F1:=F.ke I.ke
 have r1:iY.reg=2:=F1.reg
 have start:∀(Q:PV->AH->Prop),(∀j kR,Ke iY kR->kR.get 2 j=some (.list ((C.qe o).map C.m))->Q (.ref 2 j) kR)->W (120 - (9+15+1)) (.sF (.cmp .Is (.v 1) (.k .none)) (.list .nil) (.item (.attr (.v 1) ni) (.k (.int (1))))) [some (.ref 1 C.jI),some (C.opt o),some (.ref 2 η.iZ),y,z] iY Q:=by
  intro Q q
  induction o using Option.casesOn with
 |none=>
   wtm_at "W"
   rw [r1]
   have g:=AH.jF iY (.list [])
   rw [r1] at g
   exact q _ _ ((Ke.refl _).add _) g
 |some x=>
   refine jL (hkp x rfl) λj h1 h2=>?_
   have sN:jV tab (C.opt (some x)) ni iY=_:=h1
   have it:jD tab (.tup [.int C.pC,.ref 2 j]) (.int 1) iY=some (.ref 2 j):=rfl
   wtm_at "W"
   exact q _ _ (Ke.refl _) h2
 wtm_at "s";wtm_at "s"
 refine start _ λj jh K2 hj=>?_
 have uU:=I.ke.trans K2
 have w2:=K2.get _ _ _ I.wt
 have F2:=F.ke uU
 clear start
 wtm_at "W"
 refine alK C.m ws.reverse (by simp;exact HN LH) (Inv:=λd e jl=>∃t o' j y,ws.reverse=d++t/\Path C n t.reverse o'/\(∀x,o'=some x->x∈C.ns)/\WF C jl/\jQ η jl/\jl.get 2 η.iZ=some (.list (ws.map C.m))/\jl.get 2 j=some (.list ((C.qe o').map C.m))/\e=[some (.ref 1 C.jI),some (C.opt o),some (.ref 2 η.iZ),some (.ref 2 j),y]) ?_ ⟨ws.reverse,o,j,z,rfl,by rw [iS];exact I.path,I.ns,F2,uU.ka,w2,hj,rfl⟩ ?_ ?_
 ·intro d e jl alM
  refine Qf (alM) λt o' j y J J J J J h J=>?_
  rw [iS]
  exact h
 ·intro d x t e jl hd alN G q
  refine Qg (alN) λt' o' j y ht hp t8 F3 S3 w3 h3 alO=>?_
  obtain rfl:=alO
  refine ⟨_,rfl,?_⟩
  have et:t'=x::t:=by rw [hd] at ht;exact (gC ht).symm
  subst et
  refine pF (hp.back (d9)) λng hx eo=>?_
  subst eo
  refine jB (alL O t8) λl1 l2=>?_
  refine jB (Xk O hx) λo1 o2=>?_
  wtm_at "W"
  refine (alF O F3 hx l1 (ab9 l2) (acd o2) o1 h3 rfl (by wtm_at "o")).WR λj' jH K4 h4=>?_
  have F4:=F3.ke K4
  have el:C.oU x (C.qe (C.jt x))=C.line x:=by
   rw [O.line x hx]
   cases C.jt x<;>rfl
  rw [el] at h4
  refine vo (O.jI) λwsf Mg Mh J=>?_
  have hv:jV tab (.ref 1 C.jI) sE jH=some (.int C.pC):=qU (F4.fix _ _ Mg) (by kernel_rfl) Mh rfl
  wtm_at "W"
  refine vo (F4.alI O hx h4) λjY e5 F5 S5=>?_
  refine jK e5 ?_
  wtm_at "W"
  exact q _ _ <| aeM t (some x) j' _ (by rw [hd];simp) ng (λy hy=>by cases hy;exact hx) F5 ((S3.trans K4.ka).trans S5) (S5.get _ _ _ (dc rfl) (K4.get _ _ _ w3)) (S5.get _ _ _ (dc rfl) h4) rfl
 ·intro e jl KN
  refine Qg (KN) λt o' j y ht hp t8 F3 S3 w3 h3 alP=>?_
  obtain rfl:=alP
  have:t=[]:=by simpa using ht
  subst this
  have:=hp.start
  subst this
  wtm_at "W"
  exact jA ⟨j,rfl,F3,S3,h3⟩
end
end
structure New(η:AH)(R N L:Nat)(c:Addr)(fs:List (Str×PV))(iY:AH):Prop where
 ke:Ke η iY
 reg:η.reg=R
 iZ:η.iZ=N
 at_:iY.get R N=some (.inst c fs)
 len:fs.length<=L
theorem yV{c:Addr}:New η η.reg η.iZ 0 c [] (η.add (.inst c [])):=⟨(Ke.refl _).add _,rfl,rfl,AH.jF _ _,by simp⟩
theorem sZ{R L:Nat}{c:Addr}{a:Str}{Q:AH->Prop}(I:New η R N L c fs iY)(hf:(jv tab.fields c).map (oN · a)=some true)(hl:L<=90)(q:∀kR,New η R N (L+1) c (jz fs a v) kR->Q kR):∃kR,sf tab (.ref R N) a v iY=some kR/\Q kR:=by
 refine jL (eS.mp hf) λns h1 h2=>?_
 refine ⟨iY.set R N (.inst c (jz fs a v)),?_,q _ ⟨I.ke.set I.reg.symm (aq I.iZ) _,I.reg,I.iZ,AH.kX I.at_,?_⟩⟩
 ·exact jC (o:=gR (.ref R N)) rfl (jC (FL I.at_) (jC h1 (kP (sP h2 (lM (by have:=I.len;exact abb hl this))) rfl)))
 ·rw [Ey]
  have:=I.len
  split<;>(first|exact zo this|exact abd this)
section
theorem Xq{c:Addr}(h1:jv tab.pG c=none)(h2:jv tab.oA c=some 243)(hf:([nE,lK,rD,yy,yv,oF,uL,uK,uJ].all λa=>(jv tab.fields c).map (oN · a) == some true)=true){s:Str}{o b:PV}(hK:20<=K):jb K (.st (.ref c)) [.str nm,o,.str s,ps,b,.str g] η λv iY=>v=.ref η.reg η.iZ/\Ke η iY/\iY.get η.reg η.iZ=some (.inst c (yR nm o s ps b g)):=by
 refine jb.le (k:=20) ?_ hK
 refine jb.yQ (as:=[.ref η.reg η.iZ,.str nm,o,.str s,ps,b,.str g]) 0 h1 h2 akn (by wtm_at "o") (by kernel_rfl) ?_;intro _ _
 unfold Vz
 simp only [List.all_cons,List.all_nil,dY,aN,beq_iff_eq] at hf
 refine aeF (hf) λf1 f2 f3 f4 f5 f6 f7 f8 f9=>?_
 have I:=yV (η:=η) (c:=c)
 wtm_at "W"
 refine sZ I f1 (dc rfl) λji I=>?_
 wtm_at "W"
 refine sZ I f2 (dc rfl) λji I=>?_
 wtm_at "W"
 refine sZ I f3 (dc rfl) λji I=>?_
 wtm_at "W"
 refine sZ I f4 (dc rfl) λji I=>?_
 wtm_at "W"
 refine sZ I f5 (dc rfl) λji I=>?_
 wtm_at "W"
 refine sZ I f6 (dc rfl) λji I=>?_
 wtm_at "W"
 refine sZ I f7 (dc rfl) λji I=>?_
 wtm_at "W"
 refine sZ I f8 (dc rfl) λji I=>?_
 wtm_at "W"
 refine sZ I f9 (dc rfl) λji I=>?_
 wtm_at "W"
 refine wc ⟨rfl,rfl,I.ke,I.at_⟩
end
section
section
variable{r:Nat}
theorem xF(h:η.get r i=some .jm):pg tab (.ref r i) nP η=some (.dct r i):=jC h rfl
theorem ul{l:List (Str×PV)}(h:η.get r i=some (.sd l u))(hn:(sq nm oY || sq nm tN)=true):pg tab (.ref r i) nm η=some (.dct r i):=jC h (kP hn rfl)
theorem xG(h:η.get r i=some .jm)(hv:getM [] vs=some v):tP tab (.dct r i) nP vs η=some (v,η):=jC h (kP (by decide +kernel) (uf hv rfl))
theorem qV{l:List (Str×PV)}(h:η.get r i=some (.sd l u))(hv:getM l vs=some v):tP tab (.dct r i) nP vs η=some (v,η):=jC h (kP (by decide +kernel) (uf hv rfl))
theorem Gg{c f:Addr}(h:η.get r i=some (.inst c fs))(hm:(jv tab.meths c).bind (ja · nm)=some f)(hn:ja fs nm=none):pg tab (.ref r i) nm η=some (.fn f (some (.ref r i))):=jg hm λms h1 h2=>jC h (jC h1 (jC h2 (by rw [hn];rfl)))
end
section
variable(O:lD C)(F:WF C η)
include O F
theorem WF.wg:jV tab (.ref 1 C.jI) vV η=some (.ref 1 C.sQ):=by
 refine Ih (O.jI) λws h1 h2 h3 h4 h5 J=>?_
 exact qU (F.fix _ _ h1) (by kernel_rfl) h3 rfl
theorem WF.prelude:jV tab (.ref 1 C.jI) vW η=some (.ref 1 C.rJ):=by
 refine Ih (O.jI) λws h1 h2 h3 h4 h5 J=>?_
 exact qU (F.fix _ _ h1) (by kernel_rfl) h4 rfl
theorem WF.made:jV tab (.ref 1 C.jI) tZ η=some (.ref 1 C.made):=by
 refine Ih (O.jI) λws h1 h2 h3 h4 h5 J=>?_
 exact qU (F.fix _ _ h1) (by kernel_rfl) h5 rfl
def pD(C:Cfg):Str:=if C.name=tX\/(C.native=j0/\C.name=t4) then nj else kh
theorem alQ(hn:n∈C.ns)(hN:C.nat n=.str C.native)(hK:20<=K):jb K (.st (.ref 342)) [C.m n,.str C.name] η λv iY=>v=.str (pD C)/\iY=η:=by
 unfold pD
 have h1:=F.native hn O
 rw [hN] at h1
 have e:=O.names
 have e2:=O.wg
 generalize C.name=nm at e ⊢
 generalize C.native=nt at e2 h1 ⊢
 refine jb.le (k:=20) ?_ hK
 refine jb.at (as:=[C.m n,.str nm]) 0 akv (by wtm_at "o") rfl (by kernel_rfl) ?_;intro _ _
 unfold VG
 rcases e with rfl|rfl|rfl
 all_goals first
 |((wtm_at "W");exact jA ⟨congrArg PV.str (by rcases e2 with rfl|rfl|rfl|rfl<;>decide +kernel),rfl⟩)
 |(rcases e2 with rfl|rfl|rfl|rfl<;>((wtm_at "W");exact jA ⟨congrArg PV.str (by decide +kernel),rfl⟩))
end
end
section
theorem Mj{l:List (Str×PV)}{x:Str}(h:ja l x=some v):getM l [.str x]=some v:=congrArg (λo:Option PV=>some (o.getD .none)) h
theorem CW{l:List (Str×PV)}{x:Str}{d:PV}(h:ja l x=some v):getM l [.str x,d]=some v:=congrArg (λo:Option PV=>some (o.getD d)) h
theorem CX{l:List (Str×PV)}{x:Str}{d:PV}(h:ja l x=none):getM l [.str x,d]=some d:=congrArg (λo:Option PV=>some (o.getD d)) h
theorem CY{x:Str}:ja [(x,v)] x=some v:=by unfold ja;rw [jS.mpr rfl];rfl
theorem Xr{x y:Str}(h:sq x y=false):ja [(x,v)] y=none:=by unfold ja;rw [h];rfl
section
theorem alR:jv tab.oA 254=some 243:=by kernel_rfl
theorem alS:jv tab.oA 333=some 243:=by kernel_rfl
theorem Xu(hK:20<=K){s:Str}{o b:PV}:jb K (.st (.ref 254)) [.str nm,o,.str s,ps,b,.str g] η λv iY=>v=.ref η.reg η.iZ/\Ke η iY/\iY.get η.reg η.iZ=some (.inst 254 (yR nm o s ps b g)):=Xq (by kernel_rfl) alR (by kernel_rfl) hK
theorem alT(hK:20<=K){s:Str}{o b:PV}:jb K (.st (.ref 333)) [.str nm,o,.str s,ps,b,.str g] η λv iY=>v=.ref η.reg η.iZ/\Ke η iY/\iY.get η.reg η.iZ=some (.inst 333 (yR nm o s ps b g)):=Xq (by kernel_rfl) alS (by kernel_rfl) hK
theorem kZ.xH{s o:Str}(h:kZ C η v s g o):lW v=false:=by
 obtain ⟨r,i,c,b,rfl,_⟩:=h;rfl
theorem xJ{s o:Str}(h:kZ C η v s g o){a:Str}(ha:∀b,ja (yR C.name (C.m o) s .none b g) a=some p)(hp:oh p=true)(h1:(jv tab.fields 254).map (oN · a)=some true)(h2:(jv tab.fields 333).map (oN · a)=some true):jV tab v a η=some p:=by
 refine D9 (h) λr i c b lH hg hc hb=>?_
 obtain rfl:=lH
 rcases hc with rfl|rfl
 ·exact qU hg h1 (ha b) hp
 ·exact qU hg h2 (ha b) hp
theorem kZ.name{s o:Str}(h:kZ C η v s g o):jV tab v nE η=some (.str C.name):=xJ h (λb=>by kernel_rfl) rfl (by kernel_rfl) (by kernel_rfl)
theorem kZ.owner{s o:Str}(h:kZ C η v s g o):jV tab v lK η=some (C.m o):=xJ h (λb=>by kernel_rfl) rfl (by kernel_rfl) (by kernel_rfl)
theorem kZ.sort{s o:Str}(h:kZ C η v s g o):jV tab v rD η=some (.str s):=xJ h (λb=>by kernel_rfl) rfl (by kernel_rfl) (by kernel_rfl)
theorem kZ.params{s o:Str}(h:kZ C η v s g o):jV tab v yy η=some .none:=xJ h (λb=>by kernel_rfl) rfl (by kernel_rfl) (by kernel_rfl)
theorem kZ.sight{s o:Str}(h:kZ C η v s g o):jV tab v oF η=some (.str g):=xJ h (λb=>by kernel_rfl) rfl (by kernel_rfl) (by kernel_rfl)
theorem kZ.alU{s o:Str}(h:kZ C η v s g o):jV tab v uL η=some (.tup []):=xJ h (λb=>by kernel_rfl) rfl (by kernel_rfl) (by kernel_rfl)
theorem kZ.alV{s o:Str}(h:kZ C η v s g o):jV tab v uK η=some .none:=xJ h (λb=>by kernel_rfl) rfl (by kernel_rfl) (by kernel_rfl)
theorem kZ.code{s o:Str}(h:kZ C η v s g o):jV tab v uJ η=some .none:=xJ h (λb=>by kernel_rfl) rfl (by kernel_rfl) (by kernel_rfl)
theorem kZ.body{s o:Str}(h:kZ C η v s g o):∃b,jV tab v yv η=some b/\oh b=true:=by
 refine D9 (h) λr i c b o7 hg hc hb=>?_
 obtain rfl:=o7
 refine ⟨b,?_,hb⟩
 rcases hc with rfl|rfl
 ·exact qU hg (by kernel_rfl) (by kernel_rfl) hb
 ·exact qU hg (by kernel_rfl) (by kernel_rfl) hb
variable(O:lD C)(F:WF C η)
include O F
theorem alW(hn:n∈C.ns)(hE:C.native≠kg)(hN:C.nat n=.str C.native)(hK:60<=K):jb K (.st (.ref 349)) [.ref 1 C.jI,C.m n,.str C.name] η λv iY=>Ke η iY/\kZ C iY v kJ (pD C) n:=by
 refine jb.le (k:=60) ?_ hK
 refine jb.at (as:=[.ref 1 C.jI,C.m n,.str C.name]) 0 VH (by wtm_at "o") rfl (by kernel_rfl) ?_;intro _ _
 unfold LM
 have a1:=F.wg O
 have a2:=F.native hn O
 rw [hN] at a2
 obtain ⟨_,u,u',e1,e2⟩:=O.sQ.resolve_left (λh=>hE h.1)
 have g1:=F.fix _ _ e1
 have g2:=AH.kO (o:=.jm) (F.fix _ _ e2)
 wtm_at "W"
 refine jK (ul g1 (by decide +kernel)) ?_
 wtm_at "W"
 refine nV (v:=.ref 1 C.CJ) (qV (AH.kO g1) (CW CY)) ?_
 refine jK (ul g2 (by decide +kernel)) ?_
 wtm_at "W"
 refine nV (v:=.tup [.none,.int 0,.int 0]) (qV g2 (Mj CY)) ?_
 wtm_at "W"
 refine jb.mX (by wtm_at "o") (by intro _ h;cases h) (show _=some (.bool false,_) from rfl) ?_
 wtm_at "W"
 have F1:WF C (η.add .jm):=F.ke ((Ke.refl η).add _)
 refine (alQ O F1 hn hN (by wtm_at "o")).same ?_
 wtm_at "W"
 refine (alT (by wtm_at "o")).mW λji K1 h2=>?_
 refine jA ⟨((Ke.refl η).add _).trans K1,_,_,333,_,rfl,h2,.inr rfl,rfl⟩
theorem alX(hn:n∈C.ns){x:Str}(hN:C.nat n=.str x)(hx:C.native=kg\/sq C.native x=false)(hK:60<=K):jb K (.st (.ref 349)) [.ref 1 C.jI,C.m n,.str C.name] η λv iY=>Ke η iY/\v=.none:=by
 refine jb.le (k:=60) ?_ hK
 refine jb.at (as:=[.ref 1 C.jI,C.m n,.str C.name]) 0 VH (by wtm_at "o") rfl (by kernel_rfl) ?_;intro _ _
 unfold LM
 have a1:=F.wg O
 have a2:=F.native hn O
 rw [hN] at a2
 have F1:WF C (η.add .jm):=F.ke ((Ke.refl η).add _)
 have a3:=F1.prelude O
 have a4:=F1.native hn O
 rw [hN] at a4
 have g3:=F1.fix _ _ O.rJ
 have key:∀(Q:PV->AH->Prop),(Q (.ref η.reg η.iZ) (η.add .jm))->∃m,pg tab (.ref 1 C.sQ) nP η=some m/\WL (60 - (11+0+1)) (.cons (.attr (.v 1) kJ) (.cons .jm .nil)) (o6 [.ref 1 C.jI,C.m n,.str C.name] 8) η λvs η=>WM (60 - (11+0+1)) m nP vs η Q:=by
  intro Q q
  rcases O.sQ with ⟨_,e1⟩|⟨hE,u,u',e1,e2⟩
  ·have g1:=F.fix _ _ e1
   refine jK (xF g1) ?_
   wtm_at "W"
   exact nV (xG (AH.kO g1) rfl) q
  ·have g1:=F.fix _ _ e1
   refine jK (ul g1 (by decide +kernel)) ?_
   wtm_at "W"
   exact nV (qV (AH.kO g1) (CX (Xr (hx.resolve_left hE)))) q
 wtm_at "W"
 refine key _ ?_
 refine jK (xF (AH.jF _ _)) ?_
 wtm_at "W"
 refine nV (xG (AH.jF _ _) rfl) ?_
 wtm_at "W"
 refine jK (xF g3) ?_
 wtm_at "W"
 refine nV (xG (AH.kO g3) rfl) ?_
 refine jK (xF (AH.jF _ _)) ?_
 wtm_at "W"
 refine nV (xG (AH.jF _ _) rfl) ?_
 wtm_at "W"
 exact jA ⟨((Ke.refl η).add _).add _,rfl⟩
end
end
section
def alY(C:Cfg)(η:AH)(v:PV):Option (Str×Str×Str)->Prop
|none=>v=.none
|some (s,g,o)=>kZ C η v s g o
def nK(C:Cfg):Option Str->List Str->Option (Str×Str)
|_,[]=>none
|sg,n::r=>match C.has n with
 |none=>nK C sg r
 |some (s,g,o)=>if s=ly then nK C (some (sg.getD g)) r else if s=m8 then none else some (sg.getD g,o)
def Xv(C:Cfg)(η:AH)(v:PV):Option (Str×Str)->Prop
|none=>v=.none
|some (g,o)=>∃s,kZ C η v s g o
section
variable(O:lD C)(F:WF C η)
include O F
theorem alZ{s o:Str}(hn:n∈C.ns)(hh:C.has n=some (s,g,o))(he:look e 3=some v)(h:kZ C ji v s g o){Q:PV->AH->Prop}(q:Q v ji):WS k (.cons (.ret (.sF (.vX false (.cmp .Is (.v 3) (.k .none)) (.cmp .Eq (.attr (.v 3) rD) (.k (.str EI)))) (.k .none) (.v 3))) .nil) 0 e ji (nc Q):=by
 have h1:=h.xH
 have h2:=h.sort
 have h3:sq s EI=false:=by
  rcases (O.oN n hn s g o hh).2 with e|e|e|⟨e,_⟩<;>rw [e]<;>decide +kernel
 wtm_at "s";wtm_at "s";wtm_at "s";wtm_at "s";wtm_at "s"
 refine pQ he ?_
 wtm_at "W"
 refine pQ he ?_
 wtm_at "W"
 refine FJ (by show some (sq s EI)=_;rw [h3]) ?_
 refine pQ he ?_
 exact jA q
theorem al0(hn:n∈C.ns)(hK:80<=K):jb K (.st (.ref 356)) [.ref 1 C.jI,C.m n,.str C.name] η λv iY=>WF C iY/\jQ η iY/\alY C iY v (C.has n):=by
 refine jb.le (k:=80) ?_ hK
 refine jb.at (as:=[.ref 1 C.jI,C.m n,.str C.name]) 0 akw (by wtm_at "o") rfl (by kernel_rfl) ?_;intro _ _
 unfold VJ
 have a1:=F.methods hn
 have a2:=F.native hn O
 have hm:=F.lP n hn
 induction hh:C.has n using Option.casesOn with
|none=>
  unfold ug at hm
  rw [hh] at hm
  wtm_at "W"
  refine jK (xF hm) ?_
  wtm_at "W"
  refine nV (v:=.none) (xG hm rfl) ?_
  rcases O.LZ n hn with e|⟨x,e,e'⟩
  ·rw [e] at a2
   wtm_at "W"
   exact jA ⟨F,jQ.refl _,hh▸rfl⟩
  ·have hx:C.native=kg\/sq C.native x=false:=by
    rcases O.W4 n hn hh with h|h
    ·exact .inl h
    ·rcases e' with rfl|e'
     ·exact absurd e h
     ·exact .inr e'
   rw [e] at a2
   wtm_at "W"
   refine (alX O F hn e hx (by wtm_at "o")).mono λv ji lH=>?_
   refine jB (lH) λK1 h1=>?_
   subst h1
   wtm_at "W"
   exact jA ⟨F.ke K1,K1.ka,hh▸rfl⟩
|some p=>
  obtain ⟨s,g,o⟩:=p
  unfold ug at hm
  rw [hh] at hm
  rcases hm with ⟨l,u,v,h1,h2,h3⟩|⟨h1,h2⟩
  ·have h4:=h3.xH
   have h5:=h3.sort
   wtm_at "W"
   refine jK (ul h1 (by decide +kernel)) ?_
   wtm_at "W"
   refine nV (qV h1 (Mj h2)) ?_
   iterate 11 wtm_at "s"
   exact alZ O F hn hh rfl h3 ⟨F,jQ.refl _,hh▸h3⟩
  ·refine jB (O.oN n hn s g o hh) λho hS=>?_
   obtain ⟨_,e2,e3,e4,e5⟩:s=kJ/\o=n/\C.native≠kg/\C.nat n=.str C.native/\g=pD C:=by
    subst h1
    rcases hS with e|e|e|e
    ·exact absurd e (by decide +kernel)
    ·exact absurd e (by decide +kernel)
    ·exact absurd e (by decide +kernel)
    ·exact e
   subst h1
   rw [e4] at a2
   wtm_at "W"
   refine jK (xF h2) ?_
   wtm_at "W"
   refine nV (v:=.none) (xG h2 rfl) ?_
   wtm_at "W"
   refine (alW O F hn e3 e4 (by wtm_at "o")).Ak λv ji K1 h1=>?_
   have F1:=F.ke K1
   have a3:=F1.methods hn
   have h4:=h1.xH
   rw [<-e5,<-e2] at h1
   have pA:=K1.get _ _ _ h2
   refine vo (F1.alJ O hn hh pA h1) λjh e6 F2 S2=>?_
   have sN:=h1.ke S2.inst
   have h5:=sN.sort
   wtm_at "W"
   exact jA ⟨F2,K1.ka.trans S2,hh▸sN⟩
end
end
section
theorem Mk(C:Cfg)(sg:Option Str)(n:Str)(r:List Str):nK C sg (n::r)=match C.has n with
 |none=>nK C sg r
 |some (s,g,o)=>if s=ly then nK C (some (sg.getD g)) r else if s=m8 then none else some (sg.getD g,o):=rfl
noncomputable def AF:Option Str->PV
|none=>.none
|some g=>.str g
section
theorem al1{s o g':Str}(h:kZ C η v s g o)(hK:40<=K):jb K (.st (.ref 251)) [v,.str C.name,C.m o,.str g'] η λv' iY=>Ke η iY/\kZ C iY v' s g' o:=by
 refine jb.le (k:=40) ?_ hK
 refine jb.at (as:=[v,.str C.name,C.m o,.str g']) 0 ako (by wtm_at "o") rfl (by kernel_rfl) ?_;intro _ _
 unfold VA
 have a1:=h.sort
 have a2:=h.params
 refine jL (h.body) λb a3 hb=>?_
 wtm_at "W"
 refine (Xu (by wtm_at "o")).mW λji K1 h2=>?_
 have I:New η η.reg η.iZ 9 254 (yR C.name (C.m o) s .none b g') ji:=⟨K1,rfl,rfl,h2,by show 9<=9;decide⟩
 have b1:=(h.ke (λr i c fs J e=>K1.get _ _ _ e)).alU
 wtm_at "W"
 refine sZ I (by kernel_rfl) (dc rfl) λjh I=>?_
 have b1:=(h.ke (λr i c fs J e=>I.ke.get _ _ _ e)).alV
 wtm_at "W"
 refine sZ I (by kernel_rfl) (dc rfl) λjh I=>?_
 have b1:=(h.ke (λr i c fs J e=>I.ke.get _ _ _ e)).code
 wtm_at "W"
 refine sZ I (by kernel_rfl) (dc rfl) λjh I=>?_
 wtm_at "W"
 exact jA ⟨I.ke,_,_,254,b,rfl,I.at_,.inl rfl,hb⟩
theorem kZ.moved{s o:Str}(h:kZ C η v s g o):pg tab v EK η=some (.fn 251 (some v)):=by
 refine D9 (h) λr i c b lH hg hc hb=>?_
 obtain rfl:=lH
 rcases hc with rfl|rfl
 ·exact Gg hg (by kernel_rfl) (by kernel_rfl)
 ·exact Gg hg (by kernel_rfl) (by kernel_rfl)
theorem al2{s o g':Str}(h:kZ C η v s g o)(hK:50<=K):jb K (.st (.ref 405)) [v,.str g'] η λv' iY=>Ke η iY/\kZ C iY v' s g' o:=by
 refine jb.le (k:=50) ?_ hK
 refine jb.at (as:=[v,.str g']) 0 akD (by wtm_at "o") rfl (by kernel_rfl) ?_;intro _ _
 unfold VS
 have a1:=h.name
 have a2:=h.owner
 have a3:=h.moved
 wtm_at "W"
 refine (al1 h (by wtm_at "o")).mono λv' ji h1=>?_
 exact jA h1
variable(O:lD C)(F:WF C η)
include O F
theorem al3{l:List Str}(hl:∀x∈l,x∈C.ns)(hL:l.length<=65536)(hg:η.get 2 j=some (.list (l.map C.m)))(hK:100<=K):
  jb K (.st (.ref 363)) [.ref 1 C.jI,.ref 2 j,.str C.name] η λv iY=>WF C iY/\jQ η iY/\Xv C iY v (nK C none l):=by
 refine jb.le (k:=100) ?_ hK
 refine jb.at (as:=[.ref 1 C.jI,.ref 2 j,.str C.name]) 0 akx (by wtm_at "o") rfl (by kernel_rfl) ?_;intro _ _
 unfold VK
 wtm_at "W"
 refine Ax C.m l hL (λy:Option Str×Option PV×Option PV=>[some (.ref 1 C.jI),some (.ref 2 j),some (.str C.name),some (AF y.1),y.2.1,y.2.2]) (λd y iY=>WF C iY/\jQ η iY/\∀t,l=d++t->nK C none l=nK C y.1 t) (none,_,_) rfl (λd y iY I=>I.2.1.get _ _ _ (dc rfl) hg) ⟨F,jQ.refl _,λt ht=>by rw [ht];rfl⟩ ?_ ?_
 ·intro d x t y iY hd I G q
  obtain ⟨sg,u,w⟩:=y
  refine pF I λF1 S1 Ml=>?_
  have nx:∀{Gh:Option Str} {u w:Option PV} {jh:AH},WF C jh->jQ η jh->nK C none l=nK C Gh t->G [some (.ref 1 C.jI),some (.ref 2 j),some (.str C.name),some (AF Gh),u,w] jh:=λa b c=>q (_,_,_) _ ⟨a,b,λt' Mb=>(gC ((bQ d [x] t).trans (hd.symm.trans Mb)):t=t')▸c⟩
  clear q
  refine ⟨_,rfl,?_⟩
  have hx:x∈C.ns:=hl x (by simp [hd])
  have qf:=Ml _ hd
  wtm_at "W"
  refine (al0 O F1 hx (by wtm_at "o")).pe λv jh F2 S2 hE=>?_
  have qF:=S1.trans S2
  rw [Mk] at qf
  induction hh:C.has x using Option.casesOn with
 |none=>
   rw [hh] at hE qf
   have:v=.none:=hE
   subst this
   wtm_at "W"
   exact nx F2 qF qf
 |some p=>
   obtain ⟨s,g,o⟩:=p
   rw [hh] at hE qf
   have hE:kZ C jh v s g o:=hE
   have h1:=hE.xH
   have h2:=hE.sort
   have h3:=hE.sight
   have hs:=(O.oN x hx s g o hh).2
   dsimp only at qf
   by_cases ha:s=ly
   ·subst ha
    rw [if_pos rfl] at qf
    induction sg using Option.casesOn with
   |none=>
     have e1:AF none=.none:=rfl
     rw [e1]
     wtm_at "W"
     exact nx (Gh:=some g) F2 qF qf
   |some g0=>
     have e1:AF (some g0)=.str g0:=rfl
     rw [e1]
     wtm_at "W"
     exact nx (Gh:=some g0) F2 qF qf
   ·have h4:sq s ly=false:=by
     induction h:sq s ly using Bool.casesOn with
    |false=>rfl
    |true=>exact absurd (jS.mp h) ha
    have h5:mQ .NotEq (.str s) (.str ly) jh=some true:=by show some (!sq s ly)=_;rw [h4];rfl
    rw [if_neg ha] at qf
    by_cases hz:s=m8
    ·subst hz
     rw [if_pos rfl] at qf
     wtm_at "W"
     refine jA ⟨F2,qF,?_⟩
     rw [qf]
     rfl
    ·have h6:sq s m8=false:=by
      induction h:sq s m8 using Bool.casesOn with
     |false=>rfl
     |true=>exact absurd (jS.mp h) hz
     have h7:mQ .Eq (.str s) (.str m8) jh=some false:=by show some (sq s m8)=_;rw [h6]
     rw [if_neg hz] at qf
     induction sg using Option.casesOn with
    |none=>
      have e1:AF none=.none:=rfl
      rw [e1]
      wtm_at "W"
      refine jA ⟨F2,qF,?_⟩
      rw [qf]
      exact ⟨s,hE⟩
    |some g0=>
      have e1:AF (some g0)=.str g0:=rfl
      rw [e1]
      wtm_at "W"
      refine (al2 hE (by wtm_at "o")).Ak λv' jl K3 h8=>?_
      refine jA ⟨F2.ke K3,qF.trans K3.ka,?_⟩
      rw [qf]
      exact ⟨s,h8⟩
 ·intro y iY I
  refine pF I λF1 S1 Ml=>?_
  have qf:=Ml [] (bU l).symm
  wtm_at "W"
  refine jA ⟨F1,S1,?_⟩
  rw [qf]
  rfl
theorem Mm(hn:n∈C.ns)(hK:140<=K):jb K (.st (.ref 370)) [.ref 1 C.jI,C.m n,.str C.name] η λv iY=>WF C iY/\jQ η iY/\Xv C iY v (nK C none (C.line n)):=by
 refine jb.le (k:=140) ?_ hK
 refine jb.at (as:=[.ref 1 C.jI,C.m n,.str C.name]) 0 aky (by wtm_at "o") rfl (by kernel_rfl) ?_;intro _ _
 unfold VL
 wtm_at "W"
 refine (Xp O F hn (by wtm_at "o")).WT λj ji F1 S1 h2=>?_
 obtain ⟨l1,l2⟩:=AB O 9 hn (by have:=O.deep n hn;exact yd this)
 wtm_at "W"
 refine (al3 O F1 l1 (HZ l2) h2 (by wtm_at "o")).pe λv jh F2 S2 h3=>?_
 exact jA ⟨F2,S1.trans S2,h3⟩
end
end
section
noncomputable def wi(C:Cfg):Nat->Option Str->Option Str
|0,_=>none
|_+1,none=>none
|f+1,some p=>match C.own p with
 |some x=>some x
 |none=>wi C f (C.jt p)
def uW(C:Cfg)(n:Str):Str:=match C.own n with
|some x=>x
|none=>(if C.cls n=true/\C.mS n=false then wi C 11 (C.jt n) else none).getD (C.owner n)
noncomputable def rK(C:Cfg):Nat->Str->Str
|0,n=>n
|f+1,n=>if C.mS n=true then match C.jt n with
 |some p=>rK C f p
 |none=>n
  else n
def Val(C:Cfg)(v:PV)(h:Str):Prop:=
 (v=.int 5/\h=jW)\/(v=.none/\h=jX)\/
 (∃i fs o c,v=.ref 1 i/\C.fix i=some (.inst 38 fs)/\ja fs nF=some (C.opt o)/\ja fs lK=some (C.m c)/\(∀x,o=some x->x∈C.ns)/\c∈C.ns/\h=o.getD c)\/
 (∃n∈C.ns,v=C.m n/\h=uW C n)
section
variable(O:lD C)(F:WF C η)
include O F
theorem WF.wm{f:Addr}(AG:nm=rz\/nm=vM\/nm=oZ\/nm=yx\/nm=t5)(hf:(jv tab.meths 1054).bind (ja · nm)=some f):pg tab (.ref 1 C.jI) nm η=some (.fn f (some (.ref 1 C.jI))):=by
 refine aeG (O.jI) λws h1 J J J J g1 g2 g3 g4 g5=>?_
 refine Gg (F.fix _ _ h1) hf ?_
 rcases AG with rfl|rfl|rfl|rfl|rfl<;>assumption
omit O in
theorem Xw(hn:n∈C.ns)(hK:10<=K):jb K (.st (.ref 223)) [C.m n] η λv iY=>v=.bool (C.mS n)/\iY=η:=by
 refine jb.le (k:=10) ?_ hK
 refine jb.at (as:=[C.m n]) 0 Vy (by wtm_at "o") rfl (by kernel_rfl) ?_;intro _ _
 unfold LJ
 refine jL (F.attached hn) λv h1 h2=>?_
 wtm_at "W"
 exact jA ⟨by rw [gD],rfl⟩
omit O in
theorem WF.Xx(hn:n∈C.ns):pg tab (C.m n) vP η=some (.fn 223 (some (C.m n))):=by
 refine jL (F.mod n hn) λfs a b=>?_
 exact Gg a (by kernel_rfl) b.CL
theorem Xy{x:Str}(hx:x=jW\/x=jX)(hK:20<=K):jb K (.st (.ref 835)) [.ref 1 C.jI,.str x] η λv iY=>v=C.m x/\iY=η:=by
 refine jb.le (k:=20) ?_ hK
 refine jb.at (as:=[.ref 1 C.jI,.str x]) 0 Wb (by wtm_at "o") rfl (by kernel_rfl) ?_;intro _ _
 unfold LP
 have a1:=F.made O
 refine D0 (O.made) λl u h1 h2 h3=>?_
 have g1:=F.fix _ _ h1
 have g2:ja l x=some (C.m x):=by rcases hx with rfl|rfl<;>assumption
 wtm_at "W"
 refine jK (ul g1 (by decide +kernel)) ?_
 wtm_at "W"
 refine nV (qV g1 (Mj g2)) ?_
 have:lW (C.m x)=false:=rfl
 wtm_at "W"
 exact jA ⟨rfl,rfl⟩
theorem Xz{x:Str}(hv:(v=.int 5/\x=jW)\/(v=.none/\x=jX))(hK:40<=K):jb K (.st (.ref 862)) [.ref 1 C.jI,v] η λv iY=>v=C.m x/\iY=η:=by
 refine jb.le (k:=40) ?_ hK
 refine jb.at (as:=[.ref 1 C.jI,v]) 0 Wh (by wtm_at "o") rfl (by kernel_rfl) ?_;intro _ _
 unfold LQ
 have m1:=F.wm O (nm:=oZ) (by simp) (f:=835) (by kernel_rfl)
 rcases hv with ⟨rfl,rfl⟩|⟨rfl,rfl⟩
 ·wtm_at "W"
  refine jb.mX (by wtm_at "o") (by intro _ h;cases h) (show _=some (.bool false,_) from rfl) ?_
  wtm_at "W"
  refine jb.mX (by wtm_at "o") (by intro _ h;cases h) (show _=some (.bool true,_) from rfl) ?_
  wtm_at "W"
  refine (Xy O F (.inl rfl) (by wtm_at "o")).mono λv iY h=>?_
  exact jA h
 ·wtm_at "W"
  refine (Xy O F (.inr rfl) (by wtm_at "o")).mono λv iY h=>?_
  exact jA h
end
def XA:jn:=match Ai with
|.cons _ (.cons (.qO _ b) _)=>b
|_=>.nil
section
variable(O:lD C)(F:WF C η)
include O F
theorem XB{Q:Fl->Sl->AH->Prop}{a b:PV}:∀(w:Nat) (o:Option Str),(∀x,o=some x->x∈C.ns/\C.depth x+1<w)->0<w->
  (∀x,wi C w o=some x->x∈C.ns->∀e,Q (.ret (C.m x)) e η)->(wi C w o=none->∀u,Q .next [some a,some b,u] η)->
  qv (λe η Q=>W k (.cmp .IsNot (.v 2) (.k .none)) e η Q) (λe η Q=>WS k XA 0 e η Q) w [some a,some b,some (C.opt o)] η Q
|0,_,_,hw,_,_=>absurd hw (dc rfl)
|w+1,none,_,_,_,q=>by
  refine xD ?_
  have:lW (C.opt none)=true:=rfl
  wtm_at "W"
  exact q rfl _
|w+1,some x,hx,_,q1,q2=>by
  have h:=hx x rfl
  have a1:=F.own h.1
  have a2:=F.parent h.1
  unfold wi at q1 q2
  refine xD ?_
  have:lW (C.opt (some x))=false:=rfl
  rw [show C.opt (some x)=C.m x from rfl] at this ⊢
  wtm_at "W"
  unfold XA Ai
  dsimp only
  induction ho:C.own x using Option.casesOn with
 |some y=>
   rw [ho] at a1 q1
   have:lW (C.opt (some y))=false:=rfl
   wtm_at "W"
   exact q1 y rfl (O.own x h.1 y ho) _
 |none=>
   rw [ho] at a1 q1 q2
   have:lW (C.opt none)=true:=rfl
   wtm_at "W"
   exact XB w (C.jt x) (λp hp=>by have:=O.jt x h.1 p hp;exact ⟨this.1,av this.2 (cj h.2)⟩) (cG (cj h.2)) q1 q2
end
end
section
theorem al5(η:AH):qk tab (.builtin "isinstance") [.int 5,.st (.ref 38)] η=some (.bool false,η):=by kernel_rfl
theorem al6(η:AH):qk tab (.builtin "isinstance") [.none,.st (.ref 38)] η=some (.bool false,η):=by kernel_rfl
def XC:jn:=match FG with
|.cons (.qO _ b) _=>b
|_=>.nil
section
variable(O:lD C)(F:WF C η)
include O F
theorem al7(hn:n∈C.ns)(ho:C.own n=none)(hK:60<=K):jb K (.st (.ref 876)) [.ref 1 C.jI,C.m n] η λv iY=>v=C.m (uW C n)/\uW C n∈C.ns/\iY=η:=by
 generalize hm:uW C n=m
 unfold uW at hm
 rw [ho] at hm
 dsimp only at hm
 refine jb.le (k:=60) ?_ hK
 refine jb.at (as:=[.ref 1 C.jI,C.m n]) 11 akU (by wtm_at "o") rfl (by kernel_rfl) ?_;intro _ _
 unfold Ai
 have a1:=F.xE hn
 have a2:=F.Xx hn
 have a3:=F.parent hn
 have a4:=F.owner hn
 have fin:∀(o:Option Str),(∀x,o=some x->x∈C.ns/\C.depth x+1<11)->(wi C 11 o).getD (C.owner n)=m->∀v,v=C.opt o->WS (60 - (7+11+1)) (match Ai with|.cons _ r=>r|_=>.nil) 11 [some (.ref 1 C.jI),some (C.m n),some v] η (nc λv iY=>v=C.m m/\m∈C.ns/\iY=η):=by
  rintro o hx rfl v rfl
  unfold Ai
  dsimp only
  wtm_at "W"
  refine XB (k:=60 - (7+11+1)) O F 11 o hx (dc rfl) (λx h1 h2 e=>?_) (λh1 u=>?_)
  ·refine jA ?_
   rw [h1]
   exact ⟨rfl,h2,rfl⟩
  ·wtm_at "W"
   refine jA ?_
   rw [h1]
   exact ⟨rfl,O.owner n hn,rfl⟩
 have jt:∀x,C.jt n=some x->x∈C.ns/\C.depth x+1<11:=λx hp=>by
  have h1:=O.jt n hn x hp
  have h2:=O.deep n hn
  exact ⟨h1.1,bP (av h1.2 h2) (dc rfl)⟩
 induction hc:C.cls n using Bool.casesOn with
|false=>
  rw [hc] at a1
  rw [hc,if_neg (by simp)] at hm
  wtm_at "W"
  exact fin none (λx h=>nomatch h) hm _ rfl
|true=>
  rw [hc] at a1 hm
  wtm_at "W"
  refine (Xw F hn (by wtm_at "o")).same ?_
  induction uo:C.mS n using Bool.casesOn with
 |false=>
   rw [uo,if_pos ⟨rfl,rfl⟩] at hm
   iterate 5 wtm_at "s"
   exact fin (C.jt n) jt hm _ rfl
 |true=>
   rw [uo,if_neg (by simp)] at hm
   iterate 5 wtm_at "s"
   exact fin none (λx h=>nomatch h) hm _ rfl
theorem Gi(hv:Val C v h)(hK:80<=K):jb K (.st (.ref 869)) [.ref 1 C.jI,v] η λu iY=>u=C.m h/\h∈C.ns/\iY=η:=by
 refine jb.le (k:=80) ?_ hK
 refine jb.at (as:=[.ref 1 C.jI,v]) 0 akT (by wtm_at "o") rfl (by kernel_rfl) ?_;intro _ _
 unfold Wi
 have m1:=F.wm O (nm:=vM) (by simp) (f:=862) (by kernel_rfl)
 have m2:=F.wm O (nm:=yx) (by simp) (f:=876) (by kernel_rfl)
 rcases hv with ⟨rfl,rfl⟩|⟨rfl,rfl⟩|⟨i,fs,o,c,rfl,h1,h2,h3,h4,h5,rfl⟩|⟨n,hn,rfl,rfl⟩
 ·wtm_at "W"
  refine jb.mX (by wtm_at "o") (by intro _ h;cases h) (al5 η) ?_
  wtm_at "W"
  refine (Xz O F (.inl ⟨rfl,rfl⟩) (by wtm_at "o")).Ak λv iY h1 h2=>?_
  exact jA ⟨h1,O.LY.1,h2⟩
 ·wtm_at "W"
  refine jb.mX (by wtm_at "o") (by intro _ h;cases h) (al6 η) ?_
  wtm_at "W"
  refine (Xz O F (.inr ⟨rfl,rfl⟩) (by wtm_at "o")).Ak λv iY h1 h2=>?_
  exact jA ⟨h1,O.LY.2,h2⟩
 ·have g1:=F.fix _ _ h1
  have a1:jV tab (.ref 1 i) nF η=some (C.opt o):=qU g1 (by kernel_rfl) h2 (L0 o)
  have a2:jV tab (.ref 1 i) lK η=some (C.m c):=qU g1 (by kernel_rfl) h3 rfl
  have i1:CH η (.ref 1 i) 38:=⟨_,_,_,rfl,g1⟩
  wtm_at "W"
  refine jb.mX (by wtm_at "o") (by intro _ h;cases h) (FQ i1 FT FT (b:=true) rfl) ?_
  induction o using Option.casesOn with
 |some x=>
   have:lW (C.opt (some x))=false:=rfl
   wtm_at "W"
   exact jA ⟨rfl,h4 x rfl,rfl⟩
 |none=>
   have:lW (C.opt none)=true:=rfl
   wtm_at "W"
   refine jb.mX (by wtm_at "o") (by intro _ h;cases h) (FQ i1 FT An (b:=false) rfl) ?_
   wtm_at "W"
   exact jA ⟨rfl,h5,rfl⟩
 ·have a1:=F.own hn
  have i1:=F.inst hn
  wtm_at "W"
  refine jb.mX (by wtm_at "o") (by intro _ h;cases h) (FQ i1 An FT (b:=true) rfl) ?_
  induction ho:C.own n using Option.casesOn with
 |some x=>
   rw [ho] at a1
   have:lW (C.opt (some x))=false:=rfl
   wtm_at "W"
   have e:uW C n=x:=by unfold uW;rw [ho]
   exact jA ⟨by rw [e];rfl,by rw [e];exact O.own n hn x ho,rfl⟩
 |none=>
   rw [ho] at a1
   have:lW (C.opt none)=true:=rfl
   wtm_at "W"
   refine jb.mX (by wtm_at "o") (by intro _ h;cases h) (FQ i1 An An (b:=true) rfl) ?_
   wtm_at "W"
   refine (al7 O F hn ho (by wtm_at "o")).mono λv iY h=>?_
   exact jA h
theorem XD{Q:Fl->Sl->AH->Prop}{a:PV}(hk:10<=k):∀(w:Nat) (n:Str),n∈C.ns->C.depth n<w->(rK C w n∈C.ns->Q .next [some a,some (C.m (rK C w n))] η)->
  qv (λe η Q=>W k (.lP (.v 1) vP .nil) e η Q) (λe η Q=>WS k XC 0 e η Q) w [some a,some (C.m n)] η Q
|0,n,_,hw,_=>absurd hw (uA)
|w+1,n,hn,hd,q=>by
  have a2:=F.Xx hn
  have a3:=F.parent hn
  refine xD ?_
  wtm_at "W"
  refine (Xw F hn hk).Ak λv iY h1 h2=>?_
  rw [h1,h2]
  unfold rK at q
  induction uo:C.mS n using Bool.casesOn with
 |false=>
   rw [uo,if_neg (by simp)] at q
   exact FJ rfl (q hn)
 |true=>
   rw [uo,if_pos rfl] at q
   refine LV rfl ?_
   unfold XC FG
   dsimp only
   refine oK (O.FU n hn uo) λp hp=>?_
   rw [hp] at q a3
   have h:=O.jt n hn p hp
   wtm_at "W"
   exact XD hk w p h.1 (qJ hd h.2) q
theorem Mp(hn:n∈C.ns)(hK:40<=K):jb K (.st (.ref 890)) [.ref 1 C.jI,C.m n] η λv iY=>v=C.m (rK C 11 n)/\rK C 11 n∈C.ns/\iY=η:=by
 refine jb.le (k:=40) ?_ hK
 refine jb.at (as:=[.ref 1 C.jI,C.m n]) 11 akV (by wtm_at "o") rfl (by kernel_rfl) ?_;intro _ _
 unfold FG
 wtm_at "W"
 refine XD (k:=40 - (4+11+1)) O F (dc rfl) 11 n hn (by have:=O.deep n hn;exact HK this) λh=>?_
 wtm_at "W"
 exact jA ⟨rfl,h,rfl⟩
theorem AI(hv:Val C v h)(hn:n∈C.ns)(hK:160<=K):jb K (.st (.ref 412)) [.ref 1 C.jI,v,C.m n] η λu iY=>u=.bool (decide (n∈C.line h))/\WF C iY/\jQ η iY:=by
 refine jb.le (k:=160) ?_ hK
 refine jb.at (as:=[.ref 1 C.jI,v,C.m n]) 0 akE (by wtm_at "o") rfl (by kernel_rfl) ?_;intro _ _
 unfold VW
 have m1:=F.wm O (nm:=rz) (by simp) (f:=869) (by kernel_rfl)
 wtm_at "W"
 refine (Gi O F hv (by wtm_at "o")).mW λiY h2 h3=>?_
 subst h3
 wtm_at "W"
 refine (Xp O F h2 (by wtm_at "o")).WT λj ji F1 S1 h4=>?_
 obtain ⟨l1,l2⟩:=AB O 9 h2 (by have:=O.deep h h2;exact yd this)
 wtm_at "W"
 refine (alw O F1 hn l1 (HZ l2) h4 (by wtm_at "o")).same ?_
 exact jA ⟨rfl,F1,S1⟩
theorem Gj{b:Bool}(hv:Val C v h)(hK:180<=K):jb K (.st (.ref 419)) [.ref 1 C.jI,v,.str C.name,.bool b] η λu iY=>u=.bool (match nK C none (C.line h) with|none=>false|some (g,_)=>b || sq g kh)/\WF C iY/\jQ η iY:=by
 refine jb.le (k:=180) ?_ hK
 refine jb.at (as:=[.ref 1 C.jI,v,.str C.name,.bool b]) 0 akF (by wtm_at "o") rfl (by kernel_rfl) ?_;intro _ _
 unfold VX
 have m1:=F.wm O (nm:=rz) (by simp) (f:=869) (by kernel_rfl)
 wtm_at "W"
 refine (Gi O F hv (by wtm_at "o")).mW λiY h2 h3=>?_
 subst h3
 wtm_at "W"
 refine (Mm O F h2 (by wtm_at "o")).pe λu ji F1 S1 h4=>?_
 induction hf:nK C none (C.line h) using Option.casesOn with
|none=>
  rw [hf] at h4
  have:u=.none:=h4
  subst this
  wtm_at "W"
  exact jA ⟨by rw [hf];rfl,F1,S1⟩
|some p=>
  obtain ⟨g,o⟩:=p
  rw [hf] at h4
  refine oK (h4) λs hE=>?_
  have e1:=hE.xH
  have e2:=hE.sight
  induction b using Bool.casesOn with
 |true=>
   wtm_at "W"
   exact jA ⟨by rw [hf];rfl,F1,S1⟩
 |false=>
   wtm_at "W"
   exact jA ⟨by rw [hf];rfl,F1,S1⟩
end
end
section
def qW(C:Cfg)(o:Str):Str:=if C.cls o=true then rK C 11 o else o
def sends(C:Cfg)(hs o:Str):Bool:=decide (qW C o∈C.line hs)
section
variable(O:lD C)(F:WF C η)
include O F
theorem XE{me:PV}{hs:Str}(hv:Val C v h)(hm:Val C me hs)(al8:∀g o,nK C none (C.line h)=some (g,o)->o∈C.ns/\(g=kh\/g=lO\/g=nj))(hK:200<=K):jb K (.st (.ref 426)) [.ref 1 C.jI,me,v,.str C.name] η λu iY=>u=.bool (match nK C none (C.line h) with|none=>false|some (g,o)=>sq g kh || (sq g lO && sends C hs o))/\WF C iY/\jQ η iY:=by
 generalize hR:(match nK C none (C.line h) with|none=>false|some (g,o)=>sq g kh || (sq g lO && sends C hs o))=R
 refine jb.le (k:=200) ?_ hK
 refine jb.at (as:=[.ref 1 C.jI,me,v,.str C.name]) 0 akG (by wtm_at "o") rfl (by kernel_rfl) ?_;intro _ _
 unfold VY
 have m1:=F.wm O (nm:=rz) (by simp) (f:=869) (by kernel_rfl)
 wtm_at "W"
 refine (Gi O F hv (by wtm_at "o")).mW λiY h2 h3=>?_
 subst h3
 wtm_at "W"
 refine (Mm O F h2 (by wtm_at "o")).pe λu ji F1 S1 h4=>?_
 induction hf:nK C none (C.line h) using Option.casesOn with
|none=>
  rw [hf] at h4 hR
  have:u=.none:=h4
  subst this
  wtm_at "W"
  exact jA ⟨congrArg PV.bool hR,F1,S1⟩
|some p=>
  obtain ⟨g,o⟩:=p
  obtain ⟨ho,hg⟩:=al8 g o hf
  rw [hf] at h4 hR
  obtain ⟨s,hE⟩:=h4
  have e1:=hE.xH
  have e2:=hE.sight
  rcases hg with rfl|rfl|rfl
  ·wtm_at "W"
   exact jA ⟨congrArg PV.bool hR,F1,S1⟩
  ·have a1:=hE.owner
   have a2:=F1.xE ho
   have m2:=F1.wm O (nm:=t5) (by simp) (f:=890) (by kernel_rfl)
   induction hc:C.cls o using Bool.casesOn with
  |true=>
    rw [hc] at a2
    have et:qW C o=rK C 11 o:=if_pos hc
    wtm_at "W"
    refine (Mp O F1 ho (by wtm_at "o")).mW λiY q2 q3=>?_
    subst q3
    wtm_at "W"
    refine (AI O F1 hm q2 (by wtm_at "o")).pe λu jh h5 F2 S2=>?_
    rw [<-et] at h5
    exact jA ⟨h5.trans (congrArg PV.bool hR),F2,S1.trans S2⟩
  |false=>
    rw [hc] at a2
    have et:qW C o=o:=if_neg (by rw [hc];simp)
    wtm_at "W"
    refine (AI O F1 hm ho (by wtm_at "o")).pe λu jh h5 F2 S2=>?_
    have h5:u=.bool (sends C hs o):=by rw [h5];unfold sends;rw [et]
    exact jA ⟨h5.trans (congrArg PV.bool hR),F2,S1.trans S2⟩
  ·wtm_at "W"
   exact jA ⟨congrArg PV.bool hR,F1,S1⟩
def Mq(η:AH)(a:Str)(me:PV)(v:PV):Prop:=v=.none\/∃c,lW v=false/\jV tab v a η=some c/\jV tab c yz η=some me
theorem al9{Mr fr sent me:PV}{s o hs kind:Str}(hm:jV tab Mr yC η=some (.ref 1 C.jI))(hf:Mq η kQ me fr)(hse:jV tab sent vQ η=some (.str kind))(hE:kZ C η v s g o)(ho:o∈C.ns)(rO:Val C me hs)
  (hg:g=kh\/g=lO\/g=nj) (hk:kind=kQ\/kind=pJ\/kind=pK\/kind=zR) (hK:200<=K) :
  jb K (.st (.ref 526)) [Mr,fr,sent,v] η λu iY=>u=.bool (!((sq kind pJ || sq kind pK) || sq g kh || (sq kind kQ && sq g lO && !lW fr && sends C hs o)))/\WF C iY/\jQ η iY:=by
 generalize hR:(!((sq kind pJ || sq kind pK) || sq g kh || (sq kind kQ && sq g lO && !lW fr && sends C hs o)))=R
 refine jb.le (k:=200) ?_ hK
 refine jb.at (as:=[Mr,fr,sent,v]) 0 akK (by wtm_at "o") rfl (by kernel_rfl) ?_;intro _ _
 unfold V4
 have e2:=hE.sight
 rcases hk with rfl|rfl|rfl|rfl
 ·rcases hg with rfl|rfl|rfl
  ·wtm_at "W"
   exact jA ⟨congrArg PV.bool hR,F,jQ.refl _⟩
  ·rcases hf with rfl|⟨c,h1,h2,h3⟩
   ·wtm_at "W"
    exact jA ⟨congrArg PV.bool hR,F,jQ.refl _⟩
   ·rw [h1] at hR
    have a1:=hE.owner
    have a2:=F.xE ho
    have m2:=F.wm O (nm:=t5) (by simp) (f:=890) (by kernel_rfl)
    induction hc:C.cls o using Bool.casesOn with
   |true=>
     rw [hc] at a2
     have et:qW C o=rK C 11 o:=if_pos hc
     wtm_at "W"
     refine (Mp O F ho (by wtm_at "o")).mW λiY q2 q3=>?_
     subst q3
     wtm_at "W"
     refine (AI O F rO q2 (by wtm_at "o")).pe λu jh h5 F2 S2=>?_
     rw [<-et] at h5
     subst h5
     refine ⟨_,rfl,jA ⟨?_,F2,S2⟩⟩
     subst hR
     unfold sends
     generalize decide (qW C o∈C.line hs)=b
     cases b<;>rfl
   |false=>
     rw [hc] at a2
     have et:qW C o=o:=if_neg (by rw [hc];simp)
     wtm_at "W"
     refine (AI O F rO ho (by wtm_at "o")).pe λu jh h5 F2 S2=>?_
     have h5:u=.bool (sends C hs o):=by rw [h5];unfold sends;rw [et]
     subst h5
     refine ⟨_,rfl,jA ⟨?_,F2,S2⟩⟩
     subst hR
     unfold sends
     generalize decide (qW C o∈C.line hs)=b
     cases b<;>rfl
  ·rcases hf with rfl|⟨c,h1,h2,h3⟩
   ·wtm_at "W"
    exact jA ⟨congrArg PV.bool hR,F,jQ.refl _⟩
   ·rw [h1] at hR
    wtm_at "W"
    exact jA ⟨congrArg PV.bool hR,F,jQ.refl _⟩
 ·wtm_at "W"
  exact jA ⟨congrArg PV.bool hR,F,jQ.refl _⟩
 ·wtm_at "W"
  exact jA ⟨congrArg PV.bool hR,F,jQ.refl _⟩
 ·rcases hg with rfl|rfl|rfl
  ·wtm_at "W"
   exact jA ⟨congrArg PV.bool hR,F,jQ.refl _⟩
  ·wtm_at "W"
   exact jA ⟨congrArg PV.bool hR,F,jQ.refl _⟩
  ·wtm_at "W"
   exact jA ⟨congrArg PV.bool hR,F,jQ.refl _⟩
theorem ama{task rc me:PV}{s o hs how:Str}(ev:PV)(ht:jV tab task zL η=some ev)(hf:Mq η kQ me ev)(hE:kZ C η v s g o)(ho:o∈C.ns)(rO:Val C me hs)
  (hg:g=kh\/g=lO\/g=nj) (hk:how=kQ\/how=pJ\/how=pK) (hK:200<=K) :
  jb K (.st (.ref 765)) [.ref 1 C.jI,task,rc,v,.str how] η λu iY=>u=(if (!sq how kQ || sq g kh || (sq g lO && !lW ev && sends C hs o))=true then .none else .str g)/\WF C iY/\jQ η iY:=by
 generalize hR:(if (!sq how kQ || sq g kh || (sq g lO && !lW ev && sends C hs o))=true then PV.none else .str g)=R
 refine jb.le (k:=200) ?_ hK
 refine jb.at (as:=[.ref 1 C.jI,task,rc,v,.str how]) 0 V8 (by wtm_at "o") rfl (by kernel_rfl) ?_;intro _ _
 unfold LN
 have e1:=hE.xH
 have e2:=hE.sight
 rcases hk with rfl|rfl|rfl
 ·rcases hg with rfl|rfl|rfl
  ·wtm_at "W"
   exact jA ⟨hR,F,jQ.refl _⟩
  ·rcases hf with rfl|⟨c,h1,h2,h3⟩
   ·wtm_at "W"
    exact jA ⟨hR,F,jQ.refl _⟩
   ·rw [h1] at hR
    have a1:=hE.owner
    have a2:=F.xE ho
    have m2:=F.wm O (nm:=t5) (by simp) (f:=890) (by kernel_rfl)
    induction hc:C.cls o using Bool.casesOn with
   |true=>
     rw [hc] at a2
     have et:qW C o=rK C 11 o:=if_pos hc
     wtm_at "W"
     refine (Mp O F ho (by wtm_at "o")).mW λiY q2 q3=>?_
     subst q3
     wtm_at "W"
     refine (AI O F rO q2 (by wtm_at "o")).pe λu jh h5 F2 S2=>?_
     rw [<-et] at h5
     subst h5
     unfold sends at hR
     generalize decide (qW C o∈C.line hs)=b at hR ⊢
     induction b using Bool.casesOn with
    |true=>
      wtm_at "W"
      exact jA ⟨hR,F2,S2⟩
    |false=>
      wtm_at "W"
      exact jA ⟨hR,F2,S2⟩
   |false=>
     rw [hc] at a2
     have et:qW C o=o:=if_neg (by rw [hc];simp)
     wtm_at "W"
     refine (AI O F rO ho (by wtm_at "o")).pe λu jh h5 F2 S2=>?_
     have h5:u=.bool (sends C hs o):=by rw [h5];unfold sends;rw [et]
     subst h5
     unfold sends at hR ⊢
     generalize decide (qW C o∈C.line hs)=b at hR ⊢
     induction b using Bool.casesOn with
    |true=>
      wtm_at "W"
      exact jA ⟨hR,F2,S2⟩
    |false=>
      wtm_at "W"
      exact jA ⟨hR,F2,S2⟩
  ·rcases hf with rfl|⟨c,h1,h2,h3⟩
   ·wtm_at "W"
    exact jA ⟨hR,F,jQ.refl _⟩
   ·rw [h1] at hR
    wtm_at "W"
    exact jA ⟨hR,F,jQ.refl _⟩
 ·wtm_at "W"
  exact jA ⟨hR,F,jQ.refl _⟩
 ·wtm_at "W"
  exact jA ⟨hR,F,jQ.refl _⟩
omit O in
theorem amb{task rc how:PV}(hK:20<=K):jb K (.st (.ref 765)) [.ref 1 C.jI,task,rc,.none,how] η λu iY=>u=.str pZ/\iY=η:=by
 refine jb.le (k:=20) ?_ hK
 refine jb.at (as:=[.ref 1 C.jI,task,rc,.none,how]) 0 V8 (by wtm_at "o") rfl (by kernel_rfl) ?_;intro _ _
 unfold LN
 wtm_at "W"
 exact jA ⟨rfl,rfl⟩
end
end
structure lz(η:AH)(c:Nat):Prop where
 at_:∃g b n:Int,η.get 0 1=some (.list [.int g,.int b,.int n])/\0<=g/\0<=b/\0<=n/\n<=c
structure Dr(η iY:AH):Prop where
 reg:iY.reg=η.reg
 iZ:iY.iZ=η.iZ
 get:∀r i,¬ (r=0/\i=1)->iY.get r i=η.get r i
theorem Dr.refl(η:AH):Dr η η:=⟨rfl,rfl,λJ J J=>rfl⟩
theorem Dr.set(h:Dr η iY)(o:AO):Dr η (iY.set 0 1 o):=⟨by rw [AH.yO,h.reg],by rw [AH.Al,h.iZ],λr i hn=>by rw [AH.jP hn,h.get r i hn]⟩
section
theorem pos_at{j:Int}(hj:0<=j)(AJ:j<65536):yh (.int j)=some j.toNat:=kP (sP (decide_eq_true hj) (decide_eq_true AJ)) rfl
theorem uX{r:Nat}{j:Int}(h:η.get r i=some (.list l))(hj:0<=j)(AJ:j<65536)(hv:l[j.toNat]?=some v):jD tab (.ref r i) (.int j) η=some v:=jC h (jC (pos_at hj AJ) hv)
theorem lF{r:Nat}{l:List (Str×PV)}{x:Str}(h:η.get r i=some (.sd l u))(hv:ja l x=some v):jD tab (.ref r i) (.str x) η=some v:=jC h hv
theorem XF{r:Nat}{j:Int}(h:η.get r i=some (.list l))(hj:0<=j)(AJ:j<l.length)(hl:l.length<=65536):mV (.ref r i) (.int j) v η=some (η.set r i (.list (l.set j.toNat v))):=jC (o:=gR (.ref r i)) rfl (jC h (jC (pos_at hj (Int.lt_of_lt_of_le AJ (cF.mpr hl))) (kP (sP (dm.mpr ((Int.toNat_lt hj).mpr AJ)) (lM hl)) rfl)))
theorem rQ{m:Int}(h:lz η c)(hc:c<100000)(hm:0<m)(s5:m<65536)(hK:20<=K):jb K (.st (.ref 1114)) [.ref 0 1,.int m] η λv iY=>(∃d:Int,v=.int d/\0<=d/\d<m)/\lz iY (c+1)/\Dr η iY:=by
 refine jb.le (k:=20) ?_ hK
 refine jb.at (as:=[.ref 0 1,.int m]) 0 ak3 (by wtm_at "o") rfl (by kernel_rfl) ?_;intro _ _
 unfold Wr
 refine Qd (h.at_) λg b n h0 hg hb hn rF=>?_
 have i0:jD tab (.ref 0 1) (.int 0) η=some (.int g):=uX h0 (dc rfl) (dc rfl) rfl
 have i2:jD tab (.ref 0 1) (.int 2) η=some (.int n):=uX h0 (dc rfl) (dc rfl) rfl
 have md:∀x:Int,qK .Mod (.int x) (.int m) η=some (.int (cI x m),η):=λx=>by
  exact CG (kP (decide_eq_true hm) rfl)
 have hmb:aY m.natAbs 1073741824=true:=by
  show bA (m.natAbs+1) 1073741824=true
  exact dm.mpr (ah (iT (eH hm) s5) (dc rfl))
 wtm_at "W"
 by_cases XG:0<g
 ·refine LV (by show some (decide (0<g))=_;rw [decide_eq_true XG]) ?_
  wtm_at "W"
  refine lS (md g) ?_
  wtm_at "W"
  refine lS (v:=.int (Int.fdiv g m)) (u:=η) ?_ ?_
  ·exact CG (kP (sP (decide_eq_true hm) hmb) rfl)
  wtm_at "W"
  refine jK (XF h0 (dc rfl) (by simp) (by simp)) ?_
  wtm_at "W"
  refine jA ⟨⟨_,rfl,eA _ hm,gE _ hm⟩,⟨_,_,_,AH.kX h0,?_,hb,hn,by exact abi rF⟩,(Dr.refl η).set _⟩
  rw [Int.fdiv_eq_ediv_of_nonneg _ (O3 hm)]
  exact Int.ediv_nonneg hg (O3 hm)
 ·refine FJ (by show some (decide (0<g))=_;rw [decide_eq_false XG]) ?_
  wtm_at "W"
  refine lS (v:=.int (n+1)) (u:=η) rfl ?_
  wtm_at "W"
  refine jK (XF h0 (dc rfl) (by simp) (by simp)) ?_
  have h1:(η.set 0 1 (.list [.int g,.int b,.int (n+1)])).get 0 1=some (.list [.int g,.int b,.int (n+1)]):=AH.kX h0
  have D1:=(Dr.refl η).set (.list [.int g,.int b,.int (n+1)])
  show WS _ _ _ _ (η.set 0 1 (.list [.int g,.int b,.int (n+1)])) _
  revert h1 D1
  generalize η.set 0 1 (.list [.int g,.int b,.int (n+1)])=ji
  intro h1 D1
  have j1:jD tab (.ref 0 1) (.int 1) ji=some (.int b):=uX h1 (dc rfl) (dc rfl) rfl
  have j2:jD tab (.ref 0 1) (.int 2) ji=some (.int (n+1)):=uX h1 (dc rfl) (dc rfl) rfl
  have sm:∀(x y:Int) (e:AH),0<=y->y<1073741824->qK .Mult (.int x) (.int y) e=some (.int (x*y),e):=λx y e h1 h2=>by
   exact CG (kP (dm.mpr (ah (iT h1 h2) (dc rfl))) rfl)
  have mm:∀(x y:Int) (e:AH),0<y->qK .Mod (.int x) (.int y) e=some (.int (cI x y),e):=λx y e h1=>by
   exact CG (kP (decide_eq_true h1) rfl)
  wtm_at "W"
  refine lS (sm _ _ _ (H6 hn) (O4 hc rF)) ?_
  wtm_at "W"
  refine lS (sm _ _ _ (H6 hn) (O4 hc rF)) ?_
  wtm_at "W"
  refine lS (v:=.int (b+7919*(n+1)*(n+1))) (u:=ji) rfl ?_
  wtm_at "W"
  refine lS (mm _ _ _ (dc rfl)) ?_
  have b1:=eA (b+7919*(n+1)*(n+1)) (show (0:Int)<1000003 by decide)
  have b2:=gE (b+7919*(n+1)*(n+1)) (show (0:Int)<1000003 by decide)
  generalize cI (b+7919*(n+1)*(n+1)) 1000003=x at b1 b2 ⊢
  wtm_at "W"
  refine lS (sm _ _ _ (by assumption) (abj b2)) ?_
  wtm_at "W"
  refine lS (mm _ _ _ (dc rfl)) ?_
  wtm_at "W"
  refine lS (v:=.int (Int.fdiv (cI (x*x) 999983) 7)) (u:=ji) rfl ?_
  wtm_at "W"
  refine lS (mm _ _ _ hm) ?_
  refine jA ⟨⟨_,rfl,eA _ hm,gE _ hm⟩,⟨_,_,_,h1,hg,hb,by exact H6 hn,by exact abk rF⟩,D1⟩
end
def lZ:List Str:=[lN,qu,pn,pY,ju,jG,lB,jN,tW,uM,mL]
def CZ(x:Str):Str:=(ja [(j6,ju),(lu,jE),(jT,jE),(m7,lJ)] x).getD x
noncomputable def jw(l:List Str):List PV:=l.map .str
section
theorem amc(hK:10<=K):jb K (.st (.ref 1079)) [] η λv iY=>v=.ref η.reg η.iZ/\Ke η iY/\iY.get η.reg η.iZ=some (.sd [(j6,.str ju),(lu,.str jE),(jT,.str jE),(m7,.str lJ)] 0):=by
 refine jb.le (k:=10) ?_ hK
 refine jb.at (as:=[]) 0 akY (by wtm_at "o") rfl (by kernel_rfl) ?_;intro _ _
 unfold Wl
 wtm_at "W"
 exact jA ⟨rfl,(Ke.refl η).add _,AH.jF _ _⟩
theorem C0(hK:10<=K):jb K (.st (.ref 1086)) [] η λv iY=>v=.ref η.reg η.iZ/\Ke η iY/\iY.get η.reg η.iZ=some (.list (jw lZ)):=by
 refine jb.le (k:=10) ?_ hK
 refine jb.at (as:=[]) 0 akZ (by wtm_at "o") rfl (by kernel_rfl) ?_;intro _ _
 unfold Wm
 wtm_at "W"
 exact jA ⟨rfl,(Ke.refl η).add _,AH.jF _ _⟩
noncomputable def Gk:List Str->Xs
|[]=>.nil
|x::r=>.cons (.k (.str x)) (Gk r)
def yW:List (Str×List Str)->Ps
|[]=>.nil
|(x,l)::r=>.cons (.k (.str x)) (.list (Gk l)) (yW r)
def putAll:List (Str×List Str)->List (Str×List Str)->List (Str×List Str)
|acc,[]=>acc
|acc,(x,l)::r=>putAll (jz acc x l) r
theorem XH{k:Nat}{e:Sl}{η:AH}:∀(l:List Str) {Q:List PV->AH->Prop},Q (jw l) η->WL k (Gk l) e η Q
|[],Q,q=>q
|x::r,Q,q=>by
  unfold Gk
  wtm_at "s";wtm_at "s"
  exact XH r q
def yX(R:Nat)(η:AH)(d:List (Str×PV))(t:List (Str×List Str)):Prop:=∀x,(ja d x=none/\ja t x=none)\/∃i l,ja t x=some l/\ja d x=some (.ref R i)/\η.get R i=some (.list (jw l))
theorem XI{k:Nat}{e:Sl}{R:Nat}:∀(t:List (Str×List Str)) {η:AH} {d:List (Str×PV)} {acc:List (Str×List Str)} {Q:List (Str×PV)->AH->Prop},η.reg=R->(∀p∈t,p.2.length<=60000)->yX R η d acc->(∀d' iY,Ke η iY->yX R iY d' (putAll acc t)->Q d' iY)->WP k (yW t) e η d Q
|[],η,d,acc,Q,hR,hl,T,q=>q d η (Ke.refl _) T
|(x,l)::r,η,d,acc,Q,hR,hl,T,q=>by
  unfold yW
  wtm_at "s";wtm_at "s";wtm_at "s";wtm_at "s"
  refine XH l ⟨lM (by have h:l.length<=60000:=hl (x,l) (by simp);unfold jw;simp only [aC];exact DJ h),?_⟩
  have K1:Ke η (η.add (.list (jw l))):=(Ke.refl η).add _
  refine XI r (by rw [AH.nH];exact hR) (λp hp=>hl p (by simp [hp])) ?_ (λd' iY K2 T2=>q d' iY (K1.trans K2) T2)
  intro y
  rw [vC,vC]
  by_cases h:y=x
  ·rw [if_pos h,if_pos h]
   exact .inr ⟨_,_,rfl,by rw [hR],by rw [<-hR];exact AH.jF _ _⟩
  ·rw [if_neg h,if_neg h]
   rcases T y with h1|⟨i,l',h1,h2,h3⟩
   ·exact .inl h1
   ·exact .inr ⟨i,l',h1,h2,AH.kO h3⟩
theorem amd{R:Nat}:yX R η [] []:=λx=>.inl ⟨rfl,rfl⟩
def xM:List (Str×List Str):=[(lN,[j6,ju]),(qu,[ju]),(pn,[jG]),(pY,[lB]),(ju,[lu,jT,jE]),(jG,[jT,jE]),(lB,[jT,jE]),(jN,[m7,lJ]),(tW,[jW]),(uM,[jX]),(mL,[mw,jE])]
def AK:List (Str×List Str):=[(j6,[pn,pY,lN,qu]),(jT,[lB,jN,mL,lN]),(lu,[lB,jN,mL,lN]),(m7,[ju,jN,lN,tW])]
def pT:List (Str×List Str):=[(kE,[j0]),(qt,[qo])]
theorem ame:Wn=.cons (.ret (.dict (yW xM))) .nil:=rfl
theorem amf:Wo=.cons (.ret (.dict (yW AK))) .nil:=rfl
theorem amg:Wk=.cons (.ret (.dict (yW pT))) .nil:=rfl
theorem Ms{a n:Nat}{b:jn}{t:List (Str×List Str)}(hc:codeOf tab a n=some (0,b))(hb:b=.cons (.ret (.dict (yW t))) .nil)(hm:MK.any (aj · a)=false)(hbd:sL tab a []=some [])(hl:∀p∈t,p.2.length<=60000)(ht:putAll [] t=t)(hK:n+1<=K):
  jb K (.st (.ref a)) [] η λv iY=>Ke η iY/\∃j d,v=.ref η.reg j/\iY.get η.reg j=some (.sd d 0)/\yX η.reg iY d t:=by
 refine jb.at (as:=[]) 0 hc (by wtm_at "o") hm hbd ?_;intro _ _
 rw [hb]
 wtm_at "s";wtm_at "s";wtm_at "s"
 refine XI t rfl hl amd λd iY K1 T=>?_
 rw [ht] at T
 refine jA ⟨K1.add _,_,d,by rw [K1.reg],by rw [<-K1.reg];exact AH.jF _ _,λx=>?_⟩
 rcases T x with h|⟨i,l,h1,h2,h3⟩
 ·exact .inl h
 ·exact .inr ⟨i,l,h1,h2,AH.kO h3⟩
theorem amh(hK:10<=K):jb K (.st (.ref 1093)) [] η λv iY=>Ke η iY/\∃j d,v=.ref η.reg j/\iY.get η.reg j=some (.sd d 0)/\yX η.reg iY d xM:=
 Ms ak0 ame rfl (by kernel_rfl) (dc rfl) (by kernel_rfl) (H7 hK)
theorem ami(hK:10<=K):jb K (.st (.ref 1100)) [] η λv iY=>Ke η iY/\∃j d,v=.ref η.reg j/\iY.get η.reg j=some (.sd d 0)/\yX η.reg iY d AK:=
 Ms ak1 amf rfl (by kernel_rfl) (dc rfl) (by kernel_rfl) (H7 hK)
theorem amj(hK:10<=K):jb K (.st (.ref 1072)) [] η λv iY=>Ke η iY/\∃j d,v=.ref η.reg j/\iY.get η.reg j=some (.sd d 0)/\yX η.reg iY d pT:=
 Ms akX amg rfl (by kernel_rfl) (dc rfl) (by kernel_rfl) (H7 hK)
end
section
set_option genCtorIdx false in
structure Bk where
 above:Str->Option (Option Str)
 front:Str->Option (List Str)
 mix:Str->Option (List Str)
 has:Str->Option (Str×Str×Str)
 name:Str
 native:Str
 first:Str
 bk:Nat
 ab:Nat
 fr:Nat
 mx:Nat
 hs:Nat
 fix:Nat->Option AO
noncomputable def wj:Option Str->PV
|none=>.none
|some x=>.str x
def Gl(fix:Nat->Option AO)(i:Nat)(f:Str->Option (List Str)):Prop:=(fix i=some .jm/\∀x,f x=none)\/∃d u,fix i=some (.sd d u)/\∀x,(ja d x=none/\f x=none)\/∃j l,ja d x=some (.ref 0 j)/\f x=some l/\fix j=some (.list (jw l))
noncomputable def lA(p:Str×Str×Str):PV:=.tup [.str p.1,.str p.2.1,.str p.2.2]
structure s6(B:Bk):Prop where
 bk:∃d u,B.fix B.bk=some (.sd d u)/\ja d pH=some (.ref 0 B.ab)/\ja d pI=some (.ref 0 B.fr)/\ja d mz=some (.ref 0 B.mx)/\ja d nQ=some (.ref 0 B.hs)/\ja d nE=some (.str B.name)/\ja d kJ=some (.str B.native)/\ja d mO=some (.str B.first)
 above:∃d u,B.fix B.ab=some (.sd d u)/\∀x,ja d x=(B.above x).map wj
 front:Gl B.fix B.fr B.front
 mix:Gl B.fix B.mx B.mix
 has:∃d u,B.fix B.hs=some (.sd d u)/\∀x,ja d x=(B.has x).map lA
 well:B.fix 1=none
def BW(B:Bk)(η:AH):Prop:=∀i o,B.fix i=some o->η.get 0 i=some o
noncomputable def Av(B:Bk)(x:Str):List Str:=(B.front x).getD []
def Au(B:Bk)(x:Str):List Str:=(B.mix x).getD ((ja pT x).getD [])
structure CB(C:Cfg)(B:Bk):Prop where
 front:∀x∈C.ns,C.front x=Av B x
 mix:∀x∈C.ns,C.mix x=Au B x
 has:∀x∈C.ns,C.has x=B.has x
 above:∀x∈C.ns,B.above x=some (C.jt x)
 name:C.name=B.name
noncomputable def jZ(C:Cfg):Nat->Str->List Str
|0,_=>[]
|f+1,x=>(C.front x).reverse.flatMap (jZ C f)++[x]++(C.mix x).reverse.flatMap (jZ C f)
section
theorem BW.ke(h:Ke η iY)(b:BW B η):BW B iY:=λi o e=>h.get _ _ _ (b i o e)
theorem BW.ka(h:jQ η iY)(b:BW B η):BW B iY:=λi o e=>h.get _ _ _ (dc rfl) (b i o e)
theorem C6(O:lD C):∀(f:Nat) (x:Str),x∈C.ns->(∀g∈jZ C f x,g∈C.ns)/\(jZ C f x).length<=cnt f
|0,x,_=>⟨λg h=>(nomatch h),ak _⟩
|f+1,x,hx=>by
  have fm:∀(l:List Str),(∀g∈l,g∈C.ns)->(∀g∈l.flatMap (jZ C f),g∈C.ns)/\(l.flatMap (jZ C f)).length<=l.length*cnt f:=by
   intro l
   induction l with
  |nil=>intro _;exact ⟨λg h=>by simp at h,by simp⟩
  |cons a l ih=>
    intro h
    refine jB (ih λg hg=>h g (by simp [hg])) λh1 h2=>?_
    refine jB (C6 O f a (h a (by simp))) λh3 h4=>?_
    refine ⟨λg hg=>?_,?_⟩
    ·rw [dz] at hg
     rcases aH.mp hg with hg|hg
     ·exact h3 g hg
     ·exact h1 g hg
    ·rw [dz,aE,aZ,dB]
     exact adL h2 h4
  refine jB (fm (C.front x).reverse λg hg=>(O.front x hx g (by simpa using hg)).1) λa1 a2=>?_
  refine jB (fm (C.mix x).reverse λg hg=>(O.mix x hx g (by simpa using hg)).1) λb1 b2=>?_
  have lf:=O.Ao x hx
  have lm:=O.Aq x hx
  have m1:(C.front x).length*cnt f<=2*cnt f:=b9 _ lf
  have m2:(C.mix x).length*cnt f<=2*cnt f:=b9 _ lm
  rw [fB] at a2 b2
  unfold jZ
  refine ⟨λg hg=>?_,?_⟩
  ·rcases aH.mp hg with hg|hg
   ·rcases aH.mp hg with hg|hg
    ·exact a1 g hg
    ·rw [aJ.mp hg];exact hx
   ·exact b1 g hg
  ·rw [aE,aE,iU]
   show _<=1+4*cnt f
   exact adN a2 b2 m1 m2
variable(G:s6 B)(b:BW B η)
include G b
theorem amk:jD tab (.ref 0 B.bk) (.str pI) η=some (.ref 0 B.fr):=by
 refine wF (G.bk) λd u h h1 h2 h3 h4 h5 h6 h7=>?_
 exact lF (b _ _ h) h2
theorem aml:jD tab (.ref 0 B.bk) (.str mz) η=some (.ref 0 B.mx):=by
 refine wF (G.bk) λd u h h1 h2 h3 h4 h5 h6 h7=>?_
 exact lF (b _ _ h) h3
theorem XJ:jD tab (.ref 0 B.bk) (.str pH) η=some (.ref 0 B.ab):=by
 refine wF (G.bk) λd u h h1 h2 h3 h4 h5 h6 h7=>?_
 exact lF (b _ _ h) h1
theorem amm:jD tab (.ref 0 B.bk) (.str nQ) η=some (.ref 0 B.hs):=by
 refine wF (G.bk) λd u h h1 h2 h3 h4 h5 h6 h7=>?_
 exact lF (b _ _ h) h4
theorem amn:jD tab (.ref 0 B.bk) (.str nE) η=some (.str B.name):=by
 refine wF (G.bk) λd u h h1 h2 h3 h4 h5 h6 h7=>?_
 exact lF (b _ _ h) h5
theorem amo:jD tab (.ref 0 B.bk) (.str mO) η=some (.str B.first):=by
 refine wF (G.bk) λd u h h1 h2 h3 h4 h5 h6 h7=>?_
 exact lF (b _ _ h) h7
omit G in
theorem XK{f:Str->Option (List Str)}(R:Gl B.fix i f){x:Str}{Q:PV->AH->Prop}{L:List Str}
  (h:∀{Q':List PV->AH->Prop},(∀iY r j,Ke η iY->iY.get r j=some (.list (jw L))->Q' [.str x,.ref r j] iY)->WL k as e η Q')
  (q:∀iY r j,Ke η iY->iY.get r j=some (.list (jw ((f x).getD L)))->Q (.ref r j) iY) :
  ∃m,pg tab (.ref 0 i) nP η=some m/\WL k as e η λvs η=>WM k m nP vs η Q:=by
 rcases R with ⟨h1,h2⟩|⟨d,u,h1,h2⟩
 ·refine jK (xF (b _ _ h1)) (h λiY r j K1 hr=>?_)
  refine nV (xG (K1.get _ _ _ (b _ _ h1)) rfl) (q iY r j K1 ?_)
  rw [h2 x]
  exact hr
 ·refine jK (ul (b _ _ h1) (by decide +kernel)) (h λiY r j K1 hr=>?_)
  rcases h2 x with ⟨h3,h4⟩|⟨j',l,h3,h4,h5⟩
  ·refine nV (qV (K1.get _ _ _ (b _ _ h1)) (CX h3)) (q iY r j K1 ?_)
   rw [h4]
   exact hr
  ·refine nV (qV (K1.get _ _ _ (b _ _ h1)) (CW h3)) (q iY 0 j' K1 ?_)
   rw [h4]
   exact K1.get _ _ _ (b _ _ h5)
end
theorem XM{r:Nat}(h:η.get r i=some (.list l))(hl:l.length<=65536):IV (.ref r i) η=some (.ref η.reg η.iZ,η.add (.list l.reverse)):=jC (o:=nZ (.ref r i) η) (nJ h) (kP (lM hl) rfl)
theorem XO(l:List Str):(jw l).reverse=jw l.reverse:=by unfold jw;rw [List.map_reverse]
theorem s7(l r:List Str):jw (l++r)=jw l++jw r:=by unfold jw;rw [aV]
theorem mH(l:List Str):(jw l).length=l.length:=by unfold jw;rw [aC]
section
theorem XQ(O:lD C)(G:s6 B)(H:CB C B):∀(f:Nat) (x:Str) (η:AH) (K:Nat),x∈C.ns->C.rank x<f->f<=3->BW B η->25*f<=K->jb K (.st (.ref 1152)) [.ref 0 B.bk,.str x] η λv iY=>v=.ref η.reg η.iZ/\Ke η iY/\iY.get η.reg η.iZ=some (.list (jw (jZ C f x)))
|0,x,η,K,hx,hr,_,_,_=>absurd hr (uA)
|f+1,x,η,K,hx,hr,hf,b,hK=>by
  refine jb.at (as:=[.ref 0 B.bk,.str x]) 0 ak9 (by wtm_at "o") rfl (by kernel_rfl) ?_;intro _ _
  unfold Ws
  have K0:Ke η (η.add (.list [])):=(Ke.refl η).add _
  have b0:=b.ke K0
  have i0:=amk G b0
  have Mt:cnt f<=5:=by
   have:f=0\/f=1\/f=2:=adO hf
   rcases this with rfl|rfl|rfl<;>decide
  wtm_at "W"
  refine XK (x:=x) (L:=[]) b0 G.front ?_ ?_
  ·intro Q' q
   wtm_at "W"
   exact q _ _ _ ((Ke.refl _).add _) (AH.jF _ _)
  intro ji r j K1 hg
  have ef:(B.front x).getD []=C.front x:=(H.front x hx).symm
  rw [ef] at hg
  have lf:=O.Ao x hx
  have K01:=K0.trans K1
  have f0:=K1.get _ _ _ (AH.jF η (.list []))
  refine lS (XM hg (by rw [mH];exact DM lf)) ?_
  rw [XO]
  have loop:∀(gs:List Str) (pre:List Str) (jh:AH) (r j:Nat) (y:Option PV) (rest:jn) (Q:Fl->Sl->AH->Prop),(∀g∈gs,g∈C.ns/\C.rank g<f)->gs.length<=2->pre.length<=100->Ke η jh->jh.get η.reg η.iZ=some (.list (jw pre))->jh.get r j=some (.list (jw gs))->¬ (r=η.reg/\j=η.iZ)->
    (∀jl y,Ke jh jl\/Ke η jl->Ke η jl->jl.get η.reg η.iZ=some (.list (jw (pre++gs.flatMap (jZ C f))))->Q .next [some (.ref 0 B.bk),some (.str x),some (.ref η.reg η.iZ),y] jl)->
    ∃S,ro false (.ref r j) jh=some S/\oO (λe η Q=>WS (K - (9+0+1)) (.cons (.expr (.lP (.v 2) vO (.cons (.call (.st (.ref 1152)) (.cons (.v 0) (.cons (.v 3) .nil))) .nil))) .nil) 0 e η Q) (.one 3) S (S.len jh+1) 0 [some (.ref 0 B.bk),some (.str x),some (.ref η.reg η.iZ),y] jh Q:=by
   intro gs pre jh r j y rest Q C7 XR hpl K2 h1 h2 mh q
   have fl:∀d:List Str,(∀g∈d,g∈C.ns)->(d.flatMap (jZ C f)).length<=d.length*5:=by
    intro d
    induction d with
   |nil=>intro _;simp
   |cons a d ih=>
     intro h
     have h1:=ih λg hg=>h g (by simp [hg])
     have h2:=(C6 O f a (h a (by simp))).2
     rw [dz,aE,aZ,dB]
     exact PF Mt h1 h2
   refine Ax .str gs (DM XR) (λy:Option PV=>[some (.ref 0 B.bk),some (.str x),some (.ref η.reg η.iZ),y]) (λd J iY=>Ke η iY/\iY.get η.reg η.iZ=some (.list (jw (pre++d.flatMap (jZ C f))))/\iY.get r j=some (.list (jw gs))) _ rfl (λd y iY I=>I.2.2) ⟨K2,by simpa using h1,h2⟩ ?_ ?_
   ·intro d g t y iY hd I G1 q
    refine pF I λK3 h3 h4=>?_
    refine ⟨_,rfl,?_⟩
    refine jB (C7 g (by simp [hd])) λXS hg2=>?_
    have nB:d.length<gs.length:=by rw [hd];simp
    have pS:=fl d λa ha=>(C7 a (by simp [hd,ha])).1
    wtm_at "s";wtm_at "s";wtm_at "s";wtm_at "s"
    refine jK (qE h3 (by decide +kernel)) ?_
    wtm_at "W"
    refine (XQ O G H f g iY _ XS hg2 (Px hf) (b.ke K3) (by wtm_at "o")).mW λjY K5 h5=>?_
    have n3:=AH.pR h3 K3.reg.symm
    have cl:=(C6 O f g XS).2
    wtm_at "W"
    refine qA (Gb (K5.get _ _ _ h3) h5 (by rw [K3.reg];exact PG n3) (by rw [mH,mH,aE];exact adP Mt XR hpl nB pS cl)) ⟨rfl,?_⟩
    wtm_at "W"
    refine q _ _ ⟨(K3.trans K5).set rfl (ak _) _,?_,?_⟩
    ·rw [AH.kX (K5.get _ _ _ h3),<-s7,List.flatMap_append]
     simp
    ·rw [AH.jP mh]
     exact K5.get _ _ _ h4
   ·exact λy iY I=>q iY y (.inr I.1) I.1 I.2.1
  have fl:∀d:List Str,(∀g∈d,g∈C.ns)->(d.flatMap (jZ C f)).length<=d.length*5:=by
   intro d
   induction d with
  |nil=>intro _;simp
  |cons a d ih=>
    intro h
    have h1:=ih λg hg=>h g (by simp [hg])
    have h2:=(C6 O f a (h a (by simp))).2
    rw [dz,aE,aZ,dB]
    exact PF Mt h1 h2
  have XT:∀g∈(C.front x).reverse,g∈C.ns/\C.rank g<f:=λg hg=>by
   have:=O.front x hx g (by simpa using hg)
   exact ⟨this.1,qJ (by assumption) this.2⟩
  have pA:∀g∈(C.mix x).reverse,g∈C.ns/\C.rank g<f:=λg hg=>by
   have:=O.mix x hx g (by simpa using hg)
   exact ⟨this.1,qJ (by assumption) this.2⟩
  have lm:=O.Aq x hx
  have n1:=K1.iZ
  rw [AH.ny] at n1
  have Mu:=fl _ λg hg=>(XT g hg).1
  rw [fB] at Mu
  refine loop (C.front x).reverse [] _ _ _ none .nil _ XT (by simp;assumption) (by simp) (K01.add _) (AH.kO f0) (AH.jF _ _) (adQ n1) (λjl y J K3 h3=>?_)
  wtm_at "W"
  refine jK (qE h3 (by decide +kernel)) ?_
  wtm_at "W"
  refine qA (yS h3 (by rw [mH,aE];simp only [dw];exact adR lf Mu)) ⟨rfl,?_⟩
  have e4:jw ([]++(C.front x).reverse.flatMap (jZ C f))++[.str x]=jw ((C.front x).reverse.flatMap (jZ C f)++[x]):=by rw [bN,s7];rfl
  rw [e4]
  have h4:=AH.kX (o':=.list (jw ((C.front x).reverse.flatMap (jZ C f)++[x]))) h3
  have K4:=K3.set rfl (ak _) (.list (jw ((C.front x).reverse.flatMap (jZ C f)++[x])))
  revert h4 K4
  generalize jl.set η.reg η.iZ (.list (jw ((C.front x).reverse.flatMap (jZ C f)++[x])))=jH
  intro h4 K4
  have b4:=b.ke K4
  have i4:=aml G b4
  wtm_at "W"
  refine XK (x:=x) (L:=(ja pT x).getD []) b4 G.mix ?_ ?_
  ·intro Q' q
   wtm_at "W"
   refine amj (adS hK) |>.mono λv jY ⟨K5,j5,d,e1,h5,T⟩=>?_
   subst e1
   refine jK (ul h5 (by decide +kernel)) ?_
   wtm_at "W"
   rcases T x with ⟨t1,t2⟩|⟨i,l,t1,t2,t3⟩
   ·refine nV (qV (AH.kO h5) (CX t1)) ?_
    wtm_at "W"
    refine q _ _ _ (K5.add _) ?_
    rw [t2]
    exact AH.jF _ _
   ·refine nV (qV (AH.kO h5) (CW t2)) ?_
    wtm_at "W"
    refine q _ _ _ (K5.add _) ?_
    rw [t1]
    exact AH.kO t3
  intro nW r j K6 XU
  have em:(B.mix x).getD ((ja pT x).getD [])=C.mix x:=(H.mix x hx).symm
  rw [em] at XU
  refine lS (XM XU (by rw [mH];exact DM lm)) ?_
  rw [XO]
  have n4:=AH.pR h4 K4.reg.symm
  have n6:=K6.iZ
  refine loop (C.mix x).reverse _ _ _ _ y .nil _ pA (by simp;assumption) (by rw [aE];simp only [iU];exact adT lf Mu) ((K4.trans K6).add _) (AH.kO (K6.get _ _ _ h4)) (AH.jF _ _) (adU n4 n6) (λlX y J K7 h7=>?_)
  wtm_at "W"
  exact jA ⟨rfl,K7,h7⟩
end
end
noncomputable abbrev oV:=Str×Str×Str
def wk:Option Str->List oV->Option (Str×Str)
|_,[]=>none
|sg,(s,g,o)::r=>if s=ly then wk (some (sg.getD g)) r else if s=m8 then none else some (sg.getD g,o)
theorem AP(sg:Option Str)(s g o:Str)(r:List oV):wk sg ((s,g,o)::r)=if s=ly then wk (some (sg.getD g)) r else if s=m8 then none else some (sg.getD g,o):=rfl
theorem Mv(C:Cfg):∀(l:List Str) (sg:Option Str),nK C sg l=wk sg (l.filterMap C.has)
|[],_=>rfl
|n::r,sg=>by
  rw [Mk,fj]
  induction h:C.has n using Option.casesOn with
 |none=>exact Mv C r sg
 |some p=>
   obtain ⟨s,g,o⟩:=p
   dsimp only
   rw [AP,Mv C r]
theorem amq(kW:List oV)(s g o:Str)(rest:List oV)(ha:∀a∈kW,a.1=ly)(hs:s≠ly)(sg:Str):wk (some sg) (kW++(s,g,o)::rest)=if s=m8 then none else some (sg,o):=by
 induction kW with
|nil=>rw [bN,AP,if_neg hs];rfl
|cons a r ih=>
  obtain ⟨s',g',o'⟩:=a
  have:s'=ly:=ha (s',g',o') (by simp)
  subst this
  rw [bW,AP,if_pos rfl]
  exact ih λa h=>ha a (by simp [h])
theorem amr(kW:List oV)(s g o:Str)(rest:List oV)(ha:∀a∈kW,a.1=ly)(hs:s≠ly):wk none (kW++(s,g,o)::rest)=if s=m8 then none else some (((kW.map λa=>a.2.1)++[g]).headD g,o):=by
 induction kW using List.casesOn with
|nil=>rw [bN,AP,if_neg hs];rfl
|cons a r=>
  obtain ⟨s',g',o'⟩:=a
  have:s'=ly:=ha (s',g',o') (by simp)
  subst this
  rw [bW,AP,if_pos rfl,amq r s g o rest (λa h=>ha a (by simp [h])) hs]
  rfl
theorem ams(kW:List oV)(ha:∀a∈kW,a.1=ly):∀sg,wk sg kW=none:=by
 induction kW with
|nil=>intro _;rfl
|cons a r ih=>
  intro sg
  obtain ⟨s',g',o'⟩:=a
  have:s'=ly:=ha (s',g',o') (by simp)
  subst this
  rw [AP,if_pos rfl]
  exact ih (λa h=>ha a (by simp [h])) _
theorem XV:∀(hits:List oV),(∀a∈hits,a.1=ly)\/∃kW s g o rest,hits=kW++(s,g,o)::rest/\(∀a∈kW,a.1=ly)/\s≠ly
|[]=>.inl λa h=>nomatch h
|(s,g,o)::r=>by
  by_cases hs:s=ly
  ·subst hs
   rcases XV r with h|⟨kW,s,g',o',rest,rfl,h1,h2⟩
   ·refine .inl λa ha=>?_
    rcases aB.mp ha with rfl|ha
    ·rfl
    ·exact h a ha
   ·refine .inr ⟨_::kW,s,g',o',rest,rfl,λa ha=>?_,h2⟩
    rcases aB.mp ha with rfl|ha
    ·rfl
    ·exact h1 a ha
  ·exact .inr ⟨[],s,g,o,r,rfl,λa h=>(nomatch h),hs⟩
theorem Mw(a b:oV):oB (lA a) (lA b)=some (decide (a=b)):=by
 obtain ⟨a1,a2,a3⟩:=a
 obtain ⟨b1,b2,b3⟩:=b
 show some (sq a1 b1 && (sq a2 b2 && (sq a3 b3 && true)))=_
 congr 1
 rw [dY,fC,aN,aN,jS,jS,jS,decide_eq_true_iff]
 simp only [Prod.mk.injEq]
theorem amt(v:oV)(l:List oV):∃t,rZ (lA v) (l.map lA)=some t:=by
 induction l with
|nil=>exact ⟨false,rfl⟩
|cons a r ih=>exact ih.elim λt h=>⟨_,jC (Mw a v) (uf h rfl)⟩
theorem amu(v:oV)(rest kW:List oV):∀(k:Nat),(∀a∈kW,a≠v)->yj (lA v) ((kW++v::rest).map lA) k=some (k+kW.length):=by
 induction kW with
|nil=>exact λk J=>(amt v rest).elim λt h=>jC ((Mw v v).trans (congrArg some (decide_eq_true rfl))) (uf h rfl)
|cons a r ih=>exact λk hn=>jC ((Mw a v).trans (congrArg some (decide_eq_false (hn a bL)))) ((ih (k+1) λx hx=>hn x (bu _ hx)).trans (congrArg some OQ))
theorem Mx{r:Nat}(h:η.get r i=some (.list l))(hk:yj v l 0=some k)(hl:l.length<=65536):tP tab (.lst r i) BV [v] η=some (.int k,η):=jC (nJ h) (cnf (by decide +kernel) (cnf (by decide +kernel) (cnf (by decide +kernel) (kP (by decide +kernel) (jC (o:=one [v]) rfl (jC hk (kP (lM hl) rfl)))))))
theorem amv{r:Nat}(h:η.get r i=some (.list l))(hk:k<65536)(hl:l.length<=65536):En (.ref r i) (.int k) η=some (.ref η.reg η.iZ,η.add (.list (l.take k))):=by
 refine jC (pos_at Bm (HJ hk)) ?_
 exact jC (o:=nZ (.ref r i) η) (nJ h) (kP (lM hl) rfl)
theorem XW{α β:Type}{f g:α->Option β}:∀(l:List α),(∀x∈l,f x=g x)->l.filterMap f=l.filterMap g
|[],_=>rfl
|a::r,h=>by rw [fj,fj,h a (by simp),XW r λx hx=>h x (by simp [hx])]
noncomputable def Gm:Option (Str×Str)->PV
|none=>.none
|some (g,o)=>.tup [.str g,.str o]
section
theorem amw(G:s6 B)(b:BW B η)(x:Str):mQ .In (.str x) (.ref 0 B.hs) η=some (B.has x).isSome:=by
 refine nY (G.has) λd u h h1=>?_
 show se (.str x) (.ref 0 B.hs) η=_
 show (η.get 0 B.hs).bind _=_
 rw [b _ _ h]
 show some (ja d x).isSome=_
 rw [h1 x]
 cases B.has x<;>rfl
theorem amx(G:s6 B)(b:BW B η){x:Str}{p:oV}(hp:B.has x=some p):jD tab (.ref 0 B.hs) (.str x) η=some (lA p):=by
 refine nY (G.has) λd u h h1=>?_
 refine lF (b _ _ h) ?_
 rw [h1 x,hp]
 rfl
theorem amy(G:s6 B)(H:CB C B)(b:BW B η){l:List Str}(hl:∀x∈l,x∈C.ns)(hL:l.length<=1000){r:Nat}(hg:η.get r i=some (.list (jw l)))(hK:20<=K):
  jb K (.st (.ref 1162)) [.ref 0 B.bk,.ref r i] η λv iY=>v=Gm (nK C none l)/\Ke η iY:=by
 have e0:nK C none l=wk none (l.filterMap B.has):=by
  rw [Mv]
  congr 1
  exact XW l λx hx=>H.has x (hl x hx)
 rw [e0]
 generalize hR:wk none (l.filterMap B.has)=R
 refine jb.le (k:=20) ?_ hK
 refine jb.v9 8 (as:=[.ref 0 B.bk,.ref r i]) 0 alb (by wtm_at "o") rfl (by kernel_rfl) ?_;intro _ _
 unfold Wu
 wtm_at "s";wtm_at "s"
 refine rH ?_
 wtm_at "W"
 refine ⟨_,sU hg,rfl,?_⟩
 rw [sV hg,mH]
 have pS:∀d:List Str,(d.filterMap B.has).length<=d.length:=λd=>iE _ _
 refine uh .str l (Bs hL) (λu:Option PV=>[some (.ref 0 B.bk),some (.ref r i),none,none,none,none,u,none,none,none]) (λd J iY=>Ke η iY/\iY.get η.reg η.iZ=some (.list ((d.filterMap B.has).map lA))) _ rfl (λd J iY h=>h.1.get _ _ _ hg) ⟨(Ke.refl η).add _,AH.jF _ _⟩ ?_ ?_
 ·intro d x t y iY hd I GG qG
  refine jB I λK1 h1=>?_
  refine ⟨_,rfl,?_⟩
  have b1:=b.ke K1
  have i1:=amm G b1
  have nB:d.length<l.length:=by rw [hd];simp
  have:=pS d
  wtm_at "W"
  refine jK (amw G b1 x) ?_
  induction hh:B.has x using Option.casesOn with
 |none=>
   refine ⟨false,rfl,λh=>(nomatch h),λJ=>⟨λh=>(nomatch h),λJ=>qG _ _ ⟨K1,?_⟩⟩⟩
   rw [h1,iV]
   simp [hh]
 |some p=>
   refine ⟨true,rfl,λJ=>?_,λh=>nomatch h⟩
   wtm_at "s"
   refine ⟨λJ=>?_,λh=>nomatch h⟩
   have i2:=amx G b1 hh
   wtm_at "W"
   refine ⟨_,?_,qG _ _ ⟨K1.set rfl (ak _) _,AH.kX h1⟩⟩
   refine (rI h1).trans ?_
   rw [lM (by rw [aC];exact PL hL nB this),cond_true,iV]
   simp [hh]
 intro y ji I
 refine jB I λK1 h1=>?_
 generalize amz:l.filterMap B.has=hits at h1 hR ⊢
 have hlen:hits.length<=1000:=by rw [<-amz];have:=pS l;exact aea hL this
 wtm_at "W"
 refine rH ?_
 wtm_at "W"
 refine ⟨_,sU h1,rfl,?_⟩
 rw [sV h1,aC]
 have r1:=K1.reg
 refine uh lA hits (Bs hlen) (λu:Option PV=>[some (.ref 0 B.bk),some (.ref r i),some (.ref η.reg η.iZ),none,none,none,u,none,none,none]) (λd J iY=>Ke ji iY/\iY.get ji.reg ji.iZ=some (.list ((d.filter λp=>decide (p.1≠ly)).map lA))) _ rfl (λd J iY h=>h.1.get _ _ _ h1) ⟨(Ke.refl _).add _,AH.jF _ _⟩ ?_ ?_
 ·intro d xx t y iY hd I GG qG
  obtain ⟨s,g,o⟩:=xx
  refine jB I λK2 h2=>?_
  refine ⟨_,rfl,?_⟩
  have nB:d.length<hits.length:=by rw [hd];simp
  have pS:=bV (λp:oV=>decide (p.1≠ly)) d
  have i1:jD tab (lA (s,g,o)) (.int 0) iY=some (.str s):=rfl
  wtm_at "W"
  by_cases hs:s=ly
  ·subst hs
   refine ⟨false,rfl,λh=>(nomatch h),λJ=>⟨λh=>(nomatch h),λJ=>qG _ _ ⟨K2,?_⟩⟩⟩
   rw [h2,b8]
   simp
  ·have hq:sq s ly=false:=by
    induction h:sq s ly using Bool.casesOn with
   |false=>rfl
   |true=>exact absurd (jS.mp h) hs
   refine ⟨true,by show some (!sq s ly)=_;rw [hq];rfl,λJ=>?_,λh=>nomatch h⟩
   wtm_at "s"
   refine ⟨λJ=>?_,λh=>nomatch h⟩
   wtm_at "W"
   refine ⟨_,?_,qG _ _ ⟨K2.set rfl (ak _) _,AH.kX h2⟩⟩
   refine (rI h2).trans ?_
   rw [lM (ah (aL (ah (aq (aC _)) (bV _ _))) (aeb hlen nB)),cond_true,b8]
   simp [hs]
 intro y jh I
 refine jB I λK2 h2=>?_
 have My:=K2.get _ _ _ h1
 have r2:=K2.reg
 have n2:=AH.pR h2 r2.symm
 wtm_at "W"
 refine jK (eq_nil (AH.kO h2) (AH.jF _ _) (by rw [r2];exact PG n2)) ?_
 have uU:=(K1.trans K2).add (.list [])
 rcases XV hits with XX|⟨kW,s,g,o,rest,rfl,ha,hs⟩
 ·have e1:(hits.filter λp=>decide (p.1≠ly))=[]:=by
   rw [gq]
   intro a h
   simp [XX a h]
  rw [ams hits XX] at hR
  rw [e1]
  wtm_at "W"
  exact jA ⟨congrArg Gm hR,uU⟩
 ·have e1:((kW++(s,g,o)::rest).filter λp=>decide (p.1≠ly))=(s,g,o)::(rest.filter λp=>decide (p.1≠ly)):=by
   rw [b8,gq.mpr (λa h=>by simp [ha a h]),bN,List.filter_cons_of_pos (by simp [hs])]
  rw [e1] at h2
  rw [amr kW s g o rest ha hs] at hR
  rw [e1,decide_eq_false (by simp)]
  have v5:=AH.kO (o:=.list []) h2
  have i3:jD tab (.ref ji.reg ji.iZ) (.int 0) (jh.add (.list []))=some (lA (s,g,o)):=uX v5 (dc rfl) (dc rfl) rfl
  have i4:jD tab (lA (s,g,o)) (.int 0) (jh.add (.list []))=some (.str s):=rfl
  have i5:jD tab (lA (s,g,o)) (.int 1) (jh.add (.list []))=some (.str g):=rfl
  have i6:jD tab (lA (s,g,o)) (.int 2) (jh.add (.list []))=some (.str o):=rfl
  wtm_at "W"
  by_cases hz:s=m8
  ·subst hz
   refine LV (by kernel_rfl) ?_
   rw [if_pos rfl] at hR
   wtm_at "W"
   exact jA ⟨congrArg Gm hR,uU⟩
  ·have hq:sq s m8=false:=by
    induction h:sq s m8 using Bool.casesOn with
   |false=>rfl
   |true=>exact absurd (jS.mp h) hz
   refine FJ (by show some (sq s m8)=_;rw [hq]) ?_
   rw [if_neg hz] at hR
   have sN:=AH.kO (o:=.list []) My
   have r3:(jh.add (.list [])).reg=η.reg:=by rw [AH.nH,r2,r1]
   revert uU sN v5 i3 i4 i5 i6 r3
   generalize jh.add (.list [])=jl
   intro K3 v5 i3 i4 i5 i6 sN r3
   rw [aE,aZ] at hlen
   wtm_at "W"
   refine rH ?_
   wtm_at "W"
   refine jK (qE sN (by decide +kernel)) ?_
   wtm_at "W"
   have mh:∀a∈kW,a≠(s,g,o):=λa h e=>hs (by rw [<-ha a h,e])
   have ix:=amu (s,g,o) rest kW 0 mh
   rw [cU] at ix
   refine qA (Mx sN ix (by rw [aC,aE,aZ];exact PN hlen)) ?_
   refine lS (amv sN (aec hlen) (by rw [aC,aE,aZ];exact PN hlen)) ?_
   have etk:((kW++(s,g,o)::rest).map lA).take kW.length=kW.map lA:=by rw [<-List.map_take,List.take_left]
   rw [etk]
   have h4:=AH.jF jl (.list (kW.map lA))
   refine ⟨_,sU h4,rfl,?_⟩
   rw [sV h4,aC]
   have K4:=K3.add (.list (kW.map lA))
   have r4:(jl.add (.list (kW.map lA))).reg=η.reg:=K4.reg
   have Mz:=AH.kO (o:=.list (kW.map lA)) v5
   revert h4 K4 r4 Mz
   generalize jl.add (.list (kW.map lA))=jH
   intro h4 K4 r4 Mz
   refine uh lA kW (aed hlen) (λu:Option PV=>[some (.ref 0 B.bk),some (.ref r i),some (.ref η.reg η.iZ),some (.ref ji.reg ji.iZ),none,none,u,none,none,none]) (λd J iY=>Ke jH iY/\iY.get jH.reg jH.iZ=some (.list (jw (d.map λp=>p.2.1)))) _ rfl (λd J iY h=>h.1.get _ _ _ h4) ⟨(Ke.refl _).add _,AH.jF _ _⟩ ?_ ?_
   ·intro d xx t y iY hd I GG qG
    obtain ⟨s',g',o'⟩:=xx
    refine jB I λK5 h5=>?_
    refine ⟨_,rfl,?_⟩
    have nB:d.length<kW.length:=by rw [hd];simp
    have i7:jD tab (lA (s',g',o')) (.int 1) iY=some (.str g'):=rfl
    wtm_at "s"
    refine ⟨λJ=>?_,λh=>nomatch h⟩
    wtm_at "W"
    refine ⟨_,?_,qG _ _ ⟨K5.set rfl (ak _) _,AH.kX h5⟩⟩
    refine (rI h5).trans ?_
    rw [lM (by rw [mH,aC];exact aee hlen nB),cond_true,aV,s7]
    rfl
   ·intro y jY I
    refine jB I λK5 h5=>?_
    have XY:=K5.get _ _ _ Mz
    have i8:jD tab (.ref ji.reg ji.iZ) (.int 0) jY=some (lA (s,g,o)):=uX XY (dc rfl) (dc rfl) rfl
    have i9:jD tab (lA (s,g,o)) (.int 1) jY=some (.str g):=rfl
    wtm_at "W"
    refine lS (add_lists (AH.kO h5) (AH.jF _ _) (by rw [mH,aC];simp only [aZ,dw];exact aef hlen)) ?_
    have e6:jw (kW.map λp=>p.2.1)++[.str g]=jw ((kW.map λp=>p.2.1)++[g]):=by rw [s7];rfl
    rw [e6]
    have K6:=(((K4.trans K5).add (.list [.str g])).add (.list (jw ((kW.map λp=>p.2.1)++[g]))))
    have h6:=AH.jF (jY.add (.list [.str g])) (.list (jw ((kW.map λp=>p.2.1)++[g])))
    have h7:=AH.kO (o:=.list (jw ((kW.map λp=>p.2.1)++[g]))) (AH.kO (o:=.list [.str g]) XY)
    revert K6 h6 h7
    generalize (jY.add (.list [.str g])).add (.list (jw ((kW.map λp=>p.2.1)++[g])))=nW
    intro K6 h6 h7
    have i10:jD tab (.ref ji.reg ji.iZ) (.int 0) nW=some (lA (s,g,o)):=uX h7 (dc rfl) (dc rfl) rfl
    have i11:jD tab (lA (s,g,o)) (.int 2) nW=some (.str o):=rfl
    have i12:jD tab (.ref (jY.add (.list [.str g])).reg (jY.add (.list [.str g])).iZ) (.int 0) nW=some (.str (((kW.map λp=>p.2.1)++[g]).headD g)):=by
     refine uX h6 (dc rfl) (dc rfl) ?_
     cases kW<;>rfl
    wtm_at "W"
    exact jA ⟨congrArg Gm hR,K6⟩
end
noncomputable abbrev Spot:=Nat×Nat×Bool
noncomputable def xN(x:Spot):PV:=.tup [.int x.1,.int x.2.1,.bool x.2.2]
def nG(f:Str->Spot)(g:Str):PV:=.tup [xN (f g),.str g]
def Gn(f:Str->Spot)(a b:Str):Prop:=(f a).1<(f b).1\/((f a).1=(f b).1/\(f a).2.1<(f b).2.1)
theorem Gp(f:Str->Spot)(g:Str):keyOf (nG f g)=some (((f g).1:Int),((f g).2.1:Int)):=rfl
theorem XZ(f:Str->Spot)(g:Str)(B:List Str)(hB:∀b∈B,Gn f g b):∀(A:List Str),(∀a∈A,Gn f a g)->BG (nG f g) ((A++B).map (nG f))=some ((A++g::B).map (nG f))
|[],_=>by
  induction B using List.casesOn with
 |nil=>rfl
 |cons b r=>
   have h:=hB b (by simp)
   refine jC (Gp f g) (jC (Gp f b) (kP ?_ rfl))
   dsimp only
   rcases h with h|⟨h1,h2⟩
   ·rw [decide_eq_true (Oz h)];rfl
   ·rw [decide_eq_true (show ((f g).1:Int)=(f b).1 by exact Oq h1),decide_eq_true (show ((f g).2.1:Int)<(f b).2.1 by exact Oz h2)];simp
|a::A,hA=>by
  have h:=hA a (by simp)
  refine jC (Gp f g) (jC (Gp f a) (cnf ?_ (cnf ?_ (uf (XZ f g B hB A λx hx=>hA x (by simp [hx])) rfl))))
  all_goals dsimp only
  ·rcases h with h|⟨h1,h2⟩
   ·rw [decide_eq_false (OB h),decide_eq_false (show ¬ ((f g).1:Int)=(f a).1 by exact HM h)];rfl
   ·rw [decide_eq_false (aao h1),decide_eq_false (show ¬ ((f g).2.1:Int)<(f a).2.1 by exact OB h2)];simp
  ·rcases h with h|⟨h1,h2⟩
   ·rw [decide_eq_false (show ¬ ((f g).1:Int)=(f a).1 by exact HM h)];rfl
   ·rw [decide_eq_false (show ¬ ((f g).2.1:Int)=(f a).2.1 by exact HM h2)];simp
theorem X3(f:Str->Spot):∀(ks L:List Str),ks.Nodup->L.Nodup->(∀g,g∈L↔g∈ks)->L.Pairwise (Gn f)->wN (ks.map (nG f))=some (L.map (nG f))
|[],L,_,_,h,_=>by
  have:L=[]:=gF.mpr λg hg=>by have:=(h g).mp hg;simp at this
  subst this
  rfl
|k::ks,L,hn,hL,h,hp=>by
  obtain ⟨A,B,rfl⟩:=gG ((h k).mpr (by simp))
  rw [bw] at hn
  rw [fE,c5] at hp
  rw [cA,bw] at hL
  obtain ⟨n1,⟨n2,n3⟩,n4⟩:=hL
  obtain ⟨p1,⟨p2,p3⟩,p4⟩:=hp
  have ih:=X3 f ks (A++B) hn.2 (by
   rw [cA]
   exact ⟨n1,n3,λa ha b hb=>n4 a ha b (by simp [hb])⟩) (λg=>by
   have:=h g
   simp only [aH,aB] at this ⊢
   constructor
   ·intro hg
    have h2:=this.mp (by rcases hg with hg|hg;exact .inl hg;exact .inr (.inr hg))
    rcases h2 with rfl|h2
    ·rcases hg with hg|hg
     ·exact absurd rfl (n4 g hg g (by simp))
     ·exact absurd hg n2
    ·exact h2
   ·intro hg
    have h2:=this.mpr (.inr hg)
    rcases h2 with h2|rfl|h2
    ·exact .inl h2
    ·exact absurd hg hn.1
    ·exact .inr h2) (by
   rw [fE]
   exact ⟨p1,p3,λa ha b hb=>p4 a ha b (by simp [hb])⟩)
  show (wN (ks.map (nG f))).bind (BG (nG f k))=_
  rw [ih]
  exact XZ f k B (λb hb=>p2 b hb) A λa ha=>p4 a ha k (by simp)
abbrev Sp:=Str->Option Spot
noncomputable def Gq:Option Spot->Bool
|some (_,_,b)=>b
|none=>false
def qg(i:Nat)(c:Str)(R d:List Str)(sp:Sp):Sp:=λg=>if g∈d/\Gq (sp g)=false then some (i,R.idxOf g,decide (R.idxOf g<R.idxOf c)) else sp g
def AQ(C:Cfg):Nat->Nat->Option Str->Sp->Sp
|0,_,_,sp=>sp
|_+1,_,none,sp=>sp
|f+1,i,some c,sp=>AQ C f (i+1) (C.jt c) (qg i c (jZ C 3 c) (jZ C 3 c) sp)
def nM(C:Cfg):Nat->Nat->Option Str->Sp
|0,_,_=>λJ=>none
|_+1,_,none=>λJ=>none
|f+1,i,some c=>λg=>let R:=jZ C 3 c
  if g∈R then if R.idxOf g<R.idxOf c then some (i,R.idxOf g,true) else match nM C f (i+1) (C.jt c) g with
  |some s=>some s
  |none=>some (i,R.idxOf g,false)
  else nM C f (i+1) (C.jt c) g
theorem AR(C:Cfg)(f i:Nat)(c g:Str):nM C (f+1) i (some c) g=if g∈jZ C 3 c then if (jZ C 3 c).idxOf g<(jZ C 3 c).idxOf c then some (i,(jZ C 3 c).idxOf g,true) else match nM C f (i+1) (C.jt c) g with
  |some s=>some s
  |none=>some (i,(jZ C 3 c).idxOf g,false)
  else nM C f (i+1) (C.jt c) g:=rfl
theorem X4(C:Cfg):∀(f i:Nat) (o:Option Str) (sp:Sp) (g:Str),AQ C f i o sp g=match sp g with
 |some (l,a,true)=>some (l,a,true)
 |s=>match nM C f i o g with
  |some s'=>some s'
  |none=>s
|0,i,o,sp,g=>by
  unfold AQ nM
  induction h:sp g using Option.casesOn with
 |none=>rfl
 |some x=>obtain ⟨a,b,c⟩:=x;cases c<;>rfl
|f+1,i,none,sp,g=>by
  unfold AQ nM
  induction h:sp g using Option.casesOn with
 |none=>rfl
 |some x=>obtain ⟨a,b,c⟩:=x;cases c<;>rfl
|f+1,i,some c,sp,g=>by
  unfold AQ
  rw [X4 C f (i+1) (C.jt c)]
  rw [AR]
  unfold qg
  by_cases hg:g∈jZ C 3 c
  ·by_cases hl:(jZ C 3 c).idxOf g<(jZ C 3 c).idxOf c
   ·rw [if_pos hg,if_pos hl,decide_eq_true hl]
    induction h:sp g using Option.casesOn with
   |none=>rw [if_pos ⟨hg,rfl⟩]
   |some x=>
     obtain ⟨a,b,t⟩:=x
     induction t using Bool.casesOn with
    |true=>rw [if_neg (λh=>nomatch h.2)]
    |false=>rw [if_pos ⟨hg,rfl⟩]
   ·rw [if_pos hg,if_neg hl,decide_eq_false hl]
    induction h:sp g using Option.casesOn with
   |none=>
     rw [if_pos ⟨hg,rfl⟩]
     cases nM C f (i+1) (C.jt c) g<;>rfl
   |some x=>
     obtain ⟨a,b,t⟩:=x
     induction t using Bool.casesOn with
    |true=>rw [if_neg (λh=>nomatch h.2)]
    |false=>
      rw [if_pos ⟨hg,rfl⟩]
      cases nM C f (i+1) (C.jt c) g<;>rfl
  ·rw [if_neg (λh=>hg h.1),if_neg hg]
section
noncomputable def lT:List Str->List Str->List Str
|_,[]=>[]
|k,x::r=>if x∈k then lT k r else x::lT (k++[x]) r
theorem X5(k:List Str)(x:Str)(r:List Str):lT k (x::r)=if x∈k then lT k r else x::lT (k++[x]) r:=rfl
theorem rR:∀(R k:List Str) (g:Str),g∈lT k R↔g∈R/\g∉k
|[],k,g=>by simp [lT]
|x::r,k,g=>by
  unfold lT
  by_cases h:x∈k
  ·rw [if_pos h,rR r]
   constructor
   ·exact λ⟨a,b⟩=>⟨by simp [a],b⟩
   ·rintro ⟨a,b⟩
    refine ⟨?_,b⟩
    rcases aB.mp a with rfl|a
    ·exact absurd h b
    ·exact a
  ·rw [if_neg h,aB,rR r]
   simp only [aH,aJ,aB,not_or,aU,or_false]
   constructor
   ·rintro (rfl|⟨a,b,c⟩)
    ·exact ⟨.inl rfl,h⟩
    ·exact ⟨.inr a,b⟩
   ·rintro ⟨rfl|a,b⟩
    ·exact .inl rfl
    ·by_cases e:g=x
     ·exact .inl e
     ·exact .inr ⟨a,b,by simpa using e⟩
theorem MA:∀(R k:List Str),(lT k R).Nodup
|[],k=>by simp [lT]
|x::r,k=>by
  unfold lT
  split
  ·exact MA r k
  ·rw [bw]
   refine ⟨λh=>?_,MA r _⟩
   have:=((rR r (k++[x]) x).mp h).2
   simp at this
theorem xO(x g:Str)(r:List Str)(h:g≠x):(x::r).idxOf g=r.idxOf g+1:=by
 rw [gH]
 have:(x == g)=false:=by simpa using cX h
 rw [this]
 rfl
theorem MB:∀(R k:List Str),(lT k R).Pairwise λa b=>R.idxOf a<R.idxOf b
|[],k=>by simp [lT]
|x::r,k=>by
  unfold lT
  by_cases h:x∈k
  ·rw [if_pos h]
   refine (MB r k).imp_of_mem λ{a b} ha hb uY=>?_
   have h1:a≠x:=λe=>((rR r k a).mp ha).2 (e▸h)
   have h2:b≠x:=λe=>((rR r k b).mp hb).2 (e▸h)
   rw [xO x a r h1,xO x b r h2]
   exact HG uY
  ·rw [if_neg h,c5]
   have hn:∀y∈lT (k++[x]) r,y≠x:=λy hy e=>((rR r _ y).mp hy).2 (by simp [e])
   refine ⟨λy hy=>?_,(MB r (k++[x])).imp_of_mem λ{a b} ha hb uY=>?_⟩
   ·rw [xO x y r (hn y hy),gH]
    simp
   ·rw [xO x a r (hn a ha),xO x b r (hn b hb)]
    exact HG uY
theorem C8:∀(a b k:List Str),lT k (a++b)=lT k a++lT (k++lT k a) b
|[],b,k=>by simp [lT]
|x::r,b,k=>by
  rw [bW,X5,X5]
  by_cases h:x∈k
  ·rw [if_pos h,if_pos h,C8 r b k]
  ·rw [if_neg h,if_neg h,bW,C8 r b]
   simp [bQ]
theorem amA(R k:List Str)(h:∀g∈R,g∈k):lT k R=[]:=
 gF.mpr λg hg=>((rR R k g).mp hg).2 (h g ((rR R k g).mp hg).1)
section
variable(O:lD C)
include O
theorem MC:∀(f:Nat) (g:Str),g∈C.ns->∀y∈jZ C f g,C.rank y<=C.rank g
|0,_,_,y,h=>nomatch h
|f+1,g,hg,y,h=>by
  unfold jZ at h
  rcases aH.mp h with h|h
  ·rcases aH.mp h with h|h
   ·refine jL (eB.mp h) λa h1 h2=>?_
    have h3:=O.front g hg a (by simpa using h1)
    exact ah (MC f a h3.1 y h2) (aD h3.2)
   ·rw [aJ.mp h]
    exact ak _
  ·refine jL (eB.mp h) λa h1 h2=>?_
   have h3:=O.mix g hg a (by simpa using h1)
   exact ah (MC f a h3.1 y h2) (aD h3.2)
theorem MD{α β:Type}{f g:α->List β}:∀(l:List α),(∀x∈l,f x=g x)->l.flatMap f=l.flatMap g
|[],_=>rfl
|a::r,h=>by rw [dz,dz,h a (by simp),MD r λx hx=>h x (by simp [hx])]
theorem Gr:∀(f f':Nat) (g:Str),g∈C.ns->C.rank g<f->C.rank g<f'->jZ C f g=jZ C f' g
|0,_,g,_,h,_=>absurd h (uA)
|_,0,g,_,_,h=>absurd h (uA)
|f+1,f'+1,g,hg,h,h'=>by
  unfold jZ
  congr 1
  ·congr 1
   refine MD O _ λx hx=>?_
   have:=O.front g hg x (by simpa using hx)
   exact Gr f f' x this.1 (qJ (by assumption) this.2) (qJ (by assumption) this.2)
  ·refine MD O _ λx hx=>?_
   have:=O.mix g hg x (by simpa using hx)
   exact Gr f f' x this.1 (qJ (by assumption) this.2) (qJ (by assumption) this.2)
def Gs(C:Cfg)(found:List Str)(x:Str):Prop:=∀y∈jZ C 3 x,y∈found
theorem X6:∀(f:Nat) (g:Str) (found known:List Str) (r:Nat),f<=3->g∈C.ns->C.rank g<f->C.rank g<r->(∀x∈found,x∈known)->(∀x∈known,C.rank x<r->Gs C found x)->
  (C.visit f (found,known) g).1=found++lT found (jZ C f g)/\(∀x∈known,x∈(C.visit f (found,known) g).2)/\(∀x∈(C.visit f (found,known) g).1,x∈(C.visit f (found,known) g).2)/\(∀x∈(C.visit f (found,known) g).2,x∈known\/Gs C (C.visit f (found,known) g).1 x)
|0,g,_,_,_,_,_,h,_,_,_=>absurd h (uA)
|f+1,g,found,known,r,MF,hg,hf,hr,I1,I2=>by
  have fold:∀(gs:List Str) (found known:List Str) (r:Nat),(∀h∈gs,h∈C.ns/\C.rank h<f/\C.rank h<r)->(∀x∈found,x∈known)->(∀x∈known,C.rank x<r->Gs C found x)->
    (gs.foldl (C.visit f) (found,known)).1=found++lT found (gs.flatMap (jZ C f))/\(∀x∈known,x∈(gs.foldl (C.visit f) (found,known)).2)/\(∀x∈(gs.foldl (C.visit f) (found,known)).1,x∈(gs.foldl (C.visit f) (found,known)).2)/\(∀x∈(gs.foldl (C.visit f) (found,known)).2,x∈known\/Gs C (gs.foldl (C.visit f) (found,known)).1 x):=by
   intro gs
   induction gs with
  |nil=>intro found known r _ I1 I2;exact ⟨by simp [lT],λx h=>h,I1,λx h=>.inl h⟩
  |cons h gs ih=>
    intro found known r C7 I1 I2
    refine pF (C7 h (by simp)) λh1 h2 h3=>?_
    refine zu (X6 f h found known r (Px MF) h1 h2 h3 I1 I2) λv1 v2 v3 v4=>?_
    obtain ⟨w1,w2,w3,w4⟩:=ih (C.visit f (found,known) h).1 (C.visit f (found,known) h).2 r (λx hx=>C7 x (by simp [hx])) v3 (λx hx hr=>by
     rcases v4 x hx with h|h
     ·intro y hy
      rw [v1]
      exact bD _ (I2 x h hr y hy)
     ·exact h)
    refine ⟨?_,λx hx=>w2 x (v2 x hx),w3,λx hx=>?_⟩
    ·show (gs.foldl (C.visit f) ((C.visit f (found,known) h).1,(C.visit f (found,known) h).2)).1=_
     rw [w1,v1,dz,C8,bQ]
    ·rcases w4 x hx with h|h
     ·rcases v4 x h with h|h
      ·exact .inl h
      ·refine .inr λy hy=>?_
       show y∈(gs.foldl (C.visit f) ((C.visit f (found,known) _).1,(C.visit f (found,known) _).2)).1
       rw [w1]
       exact bD _ (h y hy)
     ·exact .inr h
  by_cases hk:g∈known
  ·have e:C.visit (f+1) (found,known) g=(found,known):=by
    show Cfg.visit C (f+1) (found,known) g=_
    rw [Cfg.visit,if_pos hk]
   rw [e]
   refine ⟨?_,λx h=>h,I1,λx h=>.inl h⟩
   rw [amA _ _ λy hy=>I2 g hk hr y (by rw [Gr O 3 (f+1) g hg (Py MF hf) hf];exact hy),bU]
  ·have e:C.visit (f+1) (found,known) g=(C.mix g).reverse.foldl (C.visit f) (((C.front g).reverse.foldl (C.visit f) (found,known++[g])).1++[g],((C.front g).reverse.foldl (C.visit f) (found,known++[g])).2):=by
    show Cfg.visit C (f+1) (found,known) g=_
    rw [Cfg.visit,if_neg hk]
   rw [e]
   clear e
   obtain ⟨a1,a2,a3,a4⟩:=fold (C.front g).reverse found (known++[g]) (C.rank g) (λh hh=>by
    have:=O.front g hg h (by simpa using hh)
    exact ⟨this.1,qJ (by assumption) this.2,this.2⟩) (λx hx=>bD _ (I1 x hx)) (λx hx qD=>by
    rcases aH.mp hx with hx|hx
    ·exact I2 x hx (DR hr qD)
    ·rw [aJ.mp hx] at qD;exact absurd qD (aM _))
   have hgA:g∉(C.front g).reverse.flatMap (jZ C f):=λh=>by
    refine jL (eB.mp h) λa h1 h2=>?_
    have h3:=O.front g hg a (by simpa using h1)
    exact cD h3.2 (MC O f a h3.1 g h2)
   have hgf:g∉found:=λh=>hk (I1 g h)
   obtain ⟨b1,b2,b3,b4⟩:=fold (C.mix g).reverse (((C.front g).reverse.foldl (C.visit f) (found,known++[g])).1++[g]) ((C.front g).reverse.foldl (C.visit f) (found,known++[g])).2 (C.rank g) (λh hh=>by
    have:=O.mix g hg h (by simpa using hh)
    exact ⟨this.1,qJ (by assumption) this.2,this.2⟩) (λx hx=>by
    rcases aH.mp hx with hx|hx
    ·exact a3 x hx
    ·rw [aJ.mp hx];exact a2 g (by simp)) (λx hx qD=>by
    rcases a4 x hx with h|h
    ·rcases aH.mp h with h|h
     ·intro y hy
      rw [a1]
      exact bD _ (bD _ (I2 x h (DR hr qD) y hy))
     ·rw [aJ.mp h] at qD;exact absurd qD (aM _)
    ·exact λy hy=>bD _ (h y hy))
   have e1:lT found (jZ C (f+1) g)=lT found ((C.front g).reverse.flatMap (jZ C f))++[g]++lT (found++lT found ((C.front g).reverse.flatMap (jZ C f))++[g]) ((C.mix g).reverse.flatMap (jZ C f)):=by
    unfold jZ
    rw [C8,C8]
    have:lT (found++lT found ((C.front g).reverse.flatMap (jZ C f))) [g]=[g]:=by
     unfold lT
     rw [if_neg]
     ·rfl
     ·intro h
      rcases aH.mp h with h|h
      ·exact hgf h
      ·exact hgA ((rR _ _ _).mp h).1
    rw [this,bQ found]
   have e2:=b1
   rw [a1] at e2
   rw [a1] at b2 b3 b4
   have mem:∀y,y∈found++lT found (jZ C (f+1) g)↔y∈found\/y∈jZ C (f+1) g:=λy=>by
    rw [aH,rR]
    by_cases h:y∈found<;>simp [h]
   refine ⟨?_,λx hx=>?_,?_,λx hx=>?_⟩
   ·rw [a1,e2,e1]
    simp [bQ]
   ·rw [a1];exact b2 x (a2 x (by simp [hx]))
   ·rw [a1];exact b3
   ·rw [a1] at hx ⊢
    have Cw:((C.mix g).reverse.foldl (C.visit f) (found++lT found ((C.front g).reverse.flatMap (jZ C f))++[g],((C.front g).reverse.foldl (C.visit f) (found,known++[g])).2)).1=found++lT found (jZ C (f+1) g):=by
     rw [e2,e1]
     simp [bQ]
    rcases b4 x hx with h|h
    ·rcases a4 x h with h|h
     ·rcases aH.mp h with h|h
      ·exact .inl h
      ·refine .inr λy hy=>?_
       rw [aJ.mp h,Gr O 3 (f+1) g hg (Py MF hf) hf] at hy
       rw [Cw,mem]
       exact .inr hy
     ·refine .inr λy hy=>?_
      have:=h y hy
      rw [a1] at this
      rw [e2]
      exact bD _ (bD _ this)
    ·exact .inr h
theorem MG(hn:n∈C.ns):C.mZ n=lT [] (jZ C 3 n):=by
 have h:=O.rank n hn
 have:=(X6 O 3 n [] [] 3 (ak _) hn (DK h) (DK h) (λx h=>nomatch h) (λx h=>nomatch h)).1
 exact this
end
end
section
def sLt(a b:Spot):Prop:=a.1<b.1\/(a.1=b.1/\a.2.1<b.2.1)
theorem X7(n:Str)(b:List Str):∀(l:List Str),Cfg.oS n b false l=l.filter λg=>decide (g∉b)
|[]=>rfl
|x::r=>by
  rw [AA,List.filter_cons]
  simp only [Bool.false_and,gy,false_or]
  rw [X7 n b r]
  by_cases h:x∈b
  ·simp [h]
  ·simp [h]
theorem X8(n:Str)(b T:List Str):∀(A:List Str),n∉A->Cfg.oS n b true (A++n::T)=A++(n::T).filter λg=>decide (g∉b)
|[],_=>by
  rw [bN,bN,AA,List.filter_cons]
  simp only [decide_true,Bool.not_true,Bool.and_false,gy,false_or]
  rw [X7]
  by_cases h:n∈b
  ·simp [h]
  ·simp [h]
|x::A,h=>by
  simp only [aB,not_or] at h
  rw [bW,AA]
  have:decide (x=n)=false:=decide_eq_false λe=>h.1 e.symm
  rw [this]
  simp only [Bool.not_false,dY,true_or,if_true]
  rw [X8 n b T A h.2]
  rfl
section
variable(O:lD C)
include O
def Gu(C:Cfg)(g:Str):Prop:=∃x∈C.ns,g∈C.front x\/g∈C.mix x
theorem MH:∀(f:Nat) (x:Str),x∈C.ns->∀y∈jZ C f x,y=x\/Gu C y
|0,_,_,y,h=>nomatch h
|f+1,x,hx,y,h=>by
  unfold jZ at h
  rcases aH.mp h with h|h
  ·rcases aH.mp h with h|h
   ·refine jL (eB.mp h) λa h1 h2=>?_
    have h3:a∈C.front x:=by simpa using h1
    rcases MH f a (O.front x hx a h3).1 y h2 with rfl|h4
    ·exact .inr ⟨x,hx,.inl h3⟩
    ·exact .inr h4
   ·exact .inl (aJ.mp h)
  ·refine jL (eB.mp h) λa h1 h2=>?_
   have h3:a∈C.mix x:=by simpa using h1
   rcases MH f a (O.mix x hx a h3).1 y h2 with rfl|h4
   ·exact .inr ⟨x,hx,.inr h3⟩
   ·exact .inr h4
theorem Gv{x:Str}:x∈jZ C 3 x:=by
 unfold jZ
 simp
theorem amB(d:Nat):∀(n:Str),n∈C.ns->C.depth n<=d->∀g∈C.line n,C.depth g<=C.depth n\/Gu C g:=by
  induction d using Nat.strongRecOn with|ind d ih=>?_
  intro n hn hd g hg
  rw [O.line n hn] at hg
  have own:g∈C.mZ n->C.depth g<=C.depth n\/Gu C g:=λh=>by
   rw [MG O hn,rR] at h
   rcases MH O 3 n hn g h.1 with rfl|h
   ·exact .inl (ak _)
   ·exact .inr h
  have X9:g∈(match C.jt n with|none=>[]|some p=>C.line p)->C.depth g<=C.depth n\/Gu C g:=λh=>by
   induction hp:C.jt n using Option.casesOn with
  |none=>rw [hp] at h;cases h
  |some p=>
    rw [hp] at h
    have h1:=O.jt n hn p hp
    obtain ⟨d,rfl⟩:∃k,d=k+1:=⟨d - 1,(cS (aA (cG h1.2) (by assumption))).symm⟩
    rcases ih d (bG d) p h1.1 (aO (aA h1.2 (by assumption))) g h with h|h
    ·exact .inl (ah h (aD h1.2))
    ·exact .inr h
  unfold Cfg.oU at hg
  split at hg
  ·rcases aB.mp hg with rfl|h
   ·exact .inl (ak _)
   ·exact X9 h
  ·dsimp only at hg
   rcases aH.mp hg with h|h
   ·exact own (CP _ _ _ _ _ h)
   ·exact X9 (cC.mp h).1
theorem Yb{c:Str}(hc:c∈C.ns):c∉C.qe (C.jt c):=by
 intro h
 induction hp:C.jt c using Option.casesOn with
|none=>rw [hp] at h;cases h
|some p=>
  rw [hp] at h
  have h1:=O.jt c hc p hp
  rcases amB O 9 p h1.1 (by have:=O.deep p h1.1;exact yd this) c h with h|⟨x,hx,h⟩
  ·exact absurd h (cD h1.2)
  ·rw [O.WZ x hx c h] at hp;cases hp
theorem amC{c:Str}(hc:c∈C.ns){b:List Str}(hb:c∉b){A T:List Str}(hD:C.mZ c=A++c::T)(hA:c∉A):C.oU c b=(A++(c::T).filter λg=>decide (g∉b))++b.filter λg=>decide (g∉A++(c::T).filter λg=>decide (g∉b)):=by
 unfold Cfg.oU
 by_cases h:C.front c=[]/\C.mix c=[]
 ·rw [if_pos h]
  have e:C.mZ c=[c]:=by
   rw [MG O hc]
   unfold jZ
   rw [h.1,h.2]
   rfl
  rw [e] at hD
  have:A=[]/\T=[]:=by
   induction A using List.casesOn with
  |nil=>exact ⟨rfl,by simpa using hD.symm⟩
  |cons a A=>simp at hD
  obtain ⟨rfl,rfl⟩:=this
  have e2:([c].filter λg=>decide (g∉b))=[c]:=by simp [hb]
  rw [bN,e2]
  have e3:(b.filter λg=>decide (g∉[c]))=b:=gm.mpr λa ha=>by
   simp only [aJ,decide_eq_true_eq]
   rintro rfl
   exact hb ha
  rw [e3]
  rfl
 ·rw [if_neg h]
  dsimp only
  rw [hD,X8 c b T A hA]
structure LSp(C:Cfg)(f i:Nat)(o:Option Str):Prop where
 mem:∀g,(nM C f i o g).isSome=true↔g∈C.qe o
 nodup:(C.qe o).Nodup
 lvl:∀g s,nM C f i o g=some s->i<=s.1
 Gw:(C.qe o).Pairwise λa b=>∀sa sb,nM C f i o a=some sa->nM C f i o b=some sb->sLt sa sb
theorem Gx:∀(f i:Nat) (o:Option Str),(∀c,o=some c->c∈C.ns/\C.depth c<f)->LSp C f i o
|0,i,none,_=>⟨λg=>by show (none:Option Spot).isSome=true↔g∈[];simp,dI,λg s h=>(by cases h),List.Pairwise.nil⟩
|f+1,i,none,_=>⟨λg=>by show (none:Option Spot).isSome=true↔g∈[];simp,dI,λg s h=>(by cases h),List.Pairwise.nil⟩
|0,i,some c,h=>absurd (h c rfl).2 (uA)
|f+1,i,some c,h=>by
  obtain ⟨hc,hd⟩:=h c rfl
  have ih:=Gx f (i+1) (C.jt c) λp hp=>by have:=O.jt c hc p hp;exact ⟨this.1,qJ (by assumption) this.2⟩
  have hb:=Yb O hc
  generalize Gy:C.qe (C.jt c)=b at hb
  have hD:=MG O hc
  have hR:=Gv O (C:=C) (x:=c)
  generalize Yc:jZ C 3 c=R at hD hR
  have hcD:c∈C.mZ c:=by rw [hD,rR];exact ⟨hR,by simp⟩
  have nd:=MA R []
  have sd:=MB R []
  have mD:∀g,g∈C.mZ c↔g∈R:=λg=>by rw [hD,rR];simp
  rw [<-hD] at nd sd
  obtain ⟨A,T,AU⟩:=gG hcD
  rw [AU] at nd sd
  have Yd:=nd
  rw [cA,bw] at Yd
  obtain ⟨nA,⟨nT,nT'⟩,nAT⟩:=Yd
  have hcA:c∉A:=λh=>nAT c h c (by simp) rfl
  have Ye:=sd
  rw [fE,c5] at Ye
  obtain ⟨sA,⟨sc,sT⟩,sAT⟩:=Ye
  have Yg:∀g,g∈A↔g∈R/\R.idxOf g<R.idxOf c:=λg=>by
   constructor
   ·exact λh=>⟨(mD g).mp (by rw [AU];simp [h]),sAT g h c (by simp)⟩
   ·rintro ⟨h1,h2⟩
    have:=(mD g).mpr h1
    rw [AU] at this
    rcases aH.mp this with h|h
    ·exact h
    ·rcases aB.mp h with rfl|h
     ·exact absurd h2 (aM _)
     ·exact absurd (sc g h) (Nat.lt_asymm h2)
  have hl:C.qe (some c)=(A++(c::T).filter λg=>decide (g∉b))++b.filter λg=>decide (g∉A++(c::T).filter λg=>decide (g∉b)):=by
   rw [<-amC O hc hb AU hcA]
   show C.line c=_
   rw [O.line c hc,<-Gy]
   cases C.jt c<;>rfl
  generalize hF:A++(c::T).filter (λg=>decide (g∉b))=F at hl
  have mF:∀g,g∈F↔g∈R/\(R.idxOf g<R.idxOf c\/g∉b):=λg=>by
   rw [<-hF,aH,Yg,cC,decide_eq_true_eq]
   constructor
   ·rintro (⟨h1,h2⟩|⟨h1,h2⟩)
    ·exact ⟨h1,.inl h2⟩
    ·exact ⟨(mD g).mp (by rw [AU];exact iW _ h1),.inr h2⟩
   ·rintro ⟨h1,h2⟩
    have:=(mD g).mpr h1
    rw [AU] at this
    rcases aH.mp this with h|h
    ·exact .inl ((Yg g).mp h)
    ·rcases h2 with h2|h2
     ·exact .inl ⟨h1,h2⟩
     ·exact .inr ⟨h,h2⟩
  have Yh:F.Sublist (A++c::T):=by rw [<-hF];exact List.Sublist.append_left List.filter_sublist _
  have ib:∀g,(nM C f (i+1) (C.jt c) g).isSome=true↔g∈b:=λg=>by rw [ih.mem,Gy]
  have C9:∀g,g∈F->∃t,nM C (f+1) i (some c) g=some (i,R.idxOf g,t):=λg hg=>by
   obtain ⟨h1,h2⟩:=(mF g).mp hg
   rw [AR,Yc,if_pos h1]
   by_cases h3:R.idxOf g<R.idxOf c
   ·rw [if_pos h3];exact ⟨_,rfl⟩
   ·rw [if_neg h3]
    have h4:=h2.resolve_left h3
    induction hs:nM C f (i+1) (C.jt c) g using Option.casesOn with
   |none=>exact ⟨_,rfl⟩
   |some s=>exact absurd ((ib g).mp (by rw [hs];rfl)) h4
  have Dc:∀g,g∉F->nM C (f+1) i (some c) g=nM C f (i+1) (C.jt c) g:=λg hg=>by
   rw [mF] at hg
   rw [AR,Yc]
   by_cases h1:g∈R
   ·have h2:¬ R.idxOf g<R.idxOf c:=λh=>hg ⟨h1,.inl h⟩
    have h3:g∈b:=Classical.byContradiction λh=>hg ⟨h1,.inr h⟩
    rw [if_pos h1,if_neg h2]
    induction hs:nM C f (i+1) (C.jt c) g using Option.casesOn with
   |none=>have:=(ib g).mpr h3;rw [hs] at this;cases this
   |some s=>rfl
   ·rw [if_neg h1]
  refine ⟨λg=>?_,?_,λg s hs=>?_,?_⟩
  ·rw [hl,aH,cC,decide_eq_true_eq]
   by_cases hg:g∈F
   ·obtain ⟨t,ht⟩:=C9 g hg
    rw [ht]
    simp [hg]
   ·rw [Dc g hg,ib]
    simp [hg]
  ·rw [hl,cA]
   have nb:=ih.nodup
   rw [Gy] at nb
   refine ⟨nd.sublist Yh,nb.filter _,λa ha x hx e=>?_⟩
   subst e
   have:=(cC.mp hx).2
   simp [ha] at this
  ·by_cases hg:g∈F
   ·obtain ⟨t,ht⟩:=C9 g hg
    rw [ht] at hs
    cases hs
    exact ak _
   ·rw [Dc g hg] at hs
    have:=ih.lvl g s hs
    exact H8 this
  ·rw [hl,fE]
   have sb:=ih.Gw
   rw [Gy] at sb
   refine ⟨(sd.sublist Yh).imp_of_mem λ{x y} hx hy Dd sa sb h1 h2=>?_,(sb.filter _).imp_of_mem λ{x y} hx hy Dd sa sb h1 h2=>?_,λx hx y hy sa sb h1 h2=>?_⟩
   ·obtain ⟨t1,e1⟩:=C9 x hx
    obtain ⟨t2,e2⟩:=C9 y hy
    rw [e1] at h1
    rw [e2] at h2
    cases h1
    cases h2
    exact .inr ⟨rfl,Dd⟩
   ·have n1:x∉F:=by simpa using (cC.mp hx).2
    have n2:y∉F:=by simpa using (cC.mp hy).2
    rw [Dc x n1] at h1
    rw [Dc y n2] at h2
    exact Dd sa sb h1 h2
   ·have n2:y∉F:=by simpa using (cC.mp hy).2
    obtain ⟨t1,e1⟩:=C9 x hx
    rw [e1] at h1
    rw [Dc y n2] at h2
    cases h1
    have:=ih.lvl y sb h2
    exact .inl (by show i<sb.1;exact abW this)
end
end
section
def s8(o:AO)(sp:Sp)(ks:List Str):Prop:=(ks=[]/\o=.jm/\∀g,sp g=none)\/∃d u,o=.sd d u/\d.map az=ks/\ks.Nodup/\∀g,ja d g=(sp g).map xN
theorem Yi{α:Type}:∀(d:List (Str×α)) (g:Str),(ja d g).isSome=true↔g∈d.map az
|[],g=>by simp [ja]
|(x,v)::r,g=>by
  unfold ja
  induction h:sq x g using Bool.casesOn with
 |true=>simp [jS.mp h]
 |false=>
   have:¬ g=x:=λe=>by rw [jS.mpr e.symm] at h;cases h
   simp only [cond_false,bT,aB,this,false_or]
   exact Yi r g
theorem xP{α:Type}(x:Str)(v:α):∀(d:List (Str×α)),(jz d x v).map az=if x∈d.map az then d.map az else d.map az++[x]
|[]=>by simp [jz]
|(y,u)::r=>by
  unfold jz
  induction h:sq y x using Bool.casesOn with
 |true=>simp [jS.mp h]
 |false=>
   have:¬ x=y:=λe=>by rw [jS.mpr e.symm] at h;cases h
   simp only [cond_false,bT,aB,this,false_or,xP x v r]
   split<;>simp
section
variable{r:Nat}{sp:Sp}{ks:List Str}
theorem s8.mem(h:s8 o sp ks)(g:Str):(sp g).isSome=true↔g∈ks:=by
 rcases h with ⟨rfl,rfl,h⟩|⟨d,u,rfl,rfl,_,h⟩
 ·rw [h];simp
 ·rw [<-Yi d g,h]
  cases sp g<;>simp
theorem s8.oW(h:s8 o sp ks)(hg:η.get r i=some o)(g:Str):se (.str g) (.ref r i) η=some (sp g).isSome:=by
 show (η.get r i).bind _=_
 refine jC hg ?_
 rcases h with ⟨rfl,rfl,h⟩|⟨d,u,rfl,rfl,_,h⟩
 ·exact congrArg some (by rw [h];rfl)
 ·exact congrArg some (by show (ja d g).isSome=_;rw [h];cases sp g<;>rfl)
theorem s8.item(h:s8 o sp ks)(hg:η.get r i=some o){s:Spot}(hs:sp g=some s):jD tab (.ref r i) (.str g) η=some (xN s):=by
 rcases h with ⟨rfl,rfl,h⟩|⟨d,u,rfl,rfl,_,h⟩
 ·rw [h] at hs;cases hs
 ·refine lF hg ?_
  rw [h,hs]
  rfl
theorem s8.put(h:s8 o sp ks)(hk:ks.length<=60000)(hg:η.get r i=some o)(g:Str)(s:Spot):∃o' De,mV (.ref r i) (.str g) (xN s) η=some (η.set r i o')/\s8 o' (λy=>if y=g then some s else sp y) De/\De.length<=ks.length+1/\(∀y∈De,y∈ks\/y=g):=by
 rcases h with ⟨rfl,rfl,h⟩|⟨d,u,rfl,rfl,hn,h⟩
 ·refine Qa _ ([g]) (CF hg rfl rfl) (.inr ⟨_,_,rfl,rfl,by simp,λy=>?_⟩) (by simp) (λy hy=>.inr (by simpa using hy))
  dsimp only
  by_cases e:y=g
  ·subst e
   rw [if_pos rfl,CY];rfl
  ·rw [if_neg e,h]
   have:sq g y=false:=by
    induction hq:sq g y using Bool.casesOn with
   |false=>rfl
   |true=>exact absurd (jS.mp hq).symm e
   rw [Xr this];rfl
 ·refine Qa _ _ (yP hg (by rw [aC] at hk;exact aaN hk)) (.inr ⟨_,_,rfl,rfl,?_,λy=>?_⟩) ?_ (λy hy=>?_)
  ·rw [xP]
   split
   ·exact hn
   ·rename_i hx
    rw [cA]
    refine ⟨hn,by simp,λa ha b hb e=>?_⟩
    rw [aJ.mp hb] at e
    exact hx (e▸ha)
  ·rw [vC]
   dsimp only
   by_cases e:y=g
   ·rw [if_pos e,if_pos e];rfl
   ·rw [if_neg e,if_neg e,h]
  ·rw [xP]
   split
   ·exact DN
   ·rw [aE];simp
  ·rw [xP] at hy
   split at hy
   ·exact .inl hy
   ·rcases aH.mp hy with hy|hy
    ·exact .inl hy
    ·exact .inr (aJ.mp hy)
theorem amD(v:Str)(l:List Str):∃t,rZ (.str v) (jw l)=some t:=by
 induction l with
|nil=>exact ⟨false,rfl⟩
|cons a r ih=>exact ih.elim λt h=>⟨_,jC (rfl:oB (.str a) (.str v)=some (sq a v)) (uf h rfl)⟩
theorem Yj(v:Str)(l:List Str):∀(k:Nat),v∈l->yj (.str v) (jw l) k=some (k+l.idxOf v):=by
 induction l with
|nil=>exact λJ h=>absurd h aU
|cons a r ih=>
  refine λk h=>jC (rfl:oB (.str a) (.str v)=some (sq a v)) ?_
  by_cases e:v=a
  ·rw [e]
   exact kP (jS.mpr rfl) ((amD a r).elim λt h=>uf h (congrArg some (by rw [List.idxOf_cons_self];rfl)))
  ·exact cnf (fh.mpr λz=>e (jS.mp z).symm) ((ih (k+1) ((aB.mp h).resolve_left e)).trans (congrArg some (by rw [xO a v r e];exact OQ)))
end
end
section
theorem Yk:∀(l:List Str) (i:Nat) (h:i<l.length),l.idxOf l[i]<=i
|[],_,h=>absurd h (by simp)
|a::r,0,_=>by simp
|a::r,i+1,h=>by
  have hi:i<r.length:=by simpa using h
  have ih:=Yk r i hi
  rw [List.getElem_cons_succ,gH]
  cases a == r[i]<;>simp<;>assumption
theorem Yl:∀(l:List Str) (y:Str),y∈l->∀n,l.idxOf y<n->y∈l.take n
|[],_,h,_,_=>nomatch h
|a::r,y,h,0,hn=>absurd hn (uA)
|a::r,y,h,n+1,hn=>by
  rw [iX]
  by_cases e:y=a
  ·simp [e]
  ·rw [xO a y r e] at hn
   have:y∈r:=by rcases aB.mp h with h|h;exact absurd h e;exact h
   exact bu _ (Yl r y this n (Z3 hn))
theorem Ym:∀(l:List Str) (n:Nat) (y:Str),y∈l.take n->l.idxOf y<n
|[],n,y,h=>by simp at h
|a::r,0,y,h=>by simp at h
|a::r,n+1,y,h=>by
  rw [iX] at h
  by_cases e:y=a
  ·subst e;simp
  ·rw [xO a y r e]
   have:y∈r.take n:=by rcases aB.mp h with h|h;exact absurd h e;exact h
   have:=Ym r n y this
   exact HG this
def Yn:jn:=match FH with
|.cons _ (.cons (.qO _ b) _)=>b
|_=>.nil
section
theorem Gz{r:Nat}(h:η.get r i=some (.list l))(hl:l.length<=65536):qk tab (.builtin "len") [.ref r i] η=some (.int l.length,η):=jC (o:=nZ (.ref r i) η) (nJ h) (kP (lM hl) rfl)
theorem Df{n:Nat}(h:n<=65536):qk tab (.type "range") [.int n] η=some (.mr 0 n,η):=by
 show cond (decide ((0:Int)<=n) && decide ((n:Int)<=65536)) _ _=_
 rw [decide_eq_true (show (0:Int)<=n by exact Bm),decide_eq_true (show (n:Int)<=65536 by exact Oo h)]
 rfl
theorem item_str{r:Nat}{l:List Str}{x:Str}(h:η.get r i=some (.list (jw l)))(hj:j<65536)(hx:l[j]?=some x):jD tab (.ref r i) (.int j) η=some (.str x):=by
 refine uX h (Bm) (HJ hj) ?_
 unfold jw
 rw [Int.toNat_natCast,cQ,hx]
 rfl
structure LL(C:Cfg)(η:AH)(bkA:Nat)(x0:Nat)(lv:Nat)(o:Option Str)(sp:Sp)(e:Sl)(iY:AH):Prop where
 ke:Ke η iY
 rU:∃ob ks,iY.get η.reg η.iZ=some ob/\s8 ob sp ks/\ks.length<=30*lv/\∀y∈ks,y∈C.ns
 env:∃a b c d f g,e=[some (.ref 0 bkA),some (wj o),some (.ref η.reg η.iZ),some (.int lv),a,b,c,d,f,g]
structure RI(C:Cfg)(η iY:AH)(lv:Nat)(c:Str)(R:List Str)(sp:Sp)(j:Nat)(jh:AH):Prop where
 ke:Ke η jh
 sp:∃ob ks,jh.get η.reg η.iZ=some ob/\s8 ob (qg lv c R (R.take j) sp) ks/\ks.length<=30*lv+j/\∀y∈ks,y∈C.ns
 row:jh.get iY.reg iY.iZ=some (.list (jw R))
variable(O:lD C)(G:s6 B)(H:CB C B)(b:BW B η)
include O G H b
theorem Yo{Q:Fl->Sl->AH->Prop}(hk:90<=k):∀(w lv:Nat) (o:Option Str) (sp:Sp) (e:Sl) (iY:AH),(∀c,o=some c->c∈C.ns/\C.depth c+1<w)->0<w->lv+w<=12->LL C η B.bk 0 lv o sp e iY->
  (∀GA GB e iY,LL C η B.bk 0 GA none GB e iY->GA<=12->GB=AQ C w lv o sp->Q .next e iY)->
  qv (λe η Q=>W k (.cmp .IsNot (.v 1) (.k .none)) e η Q) (λe η Q=>WS k Yn 0 e η Q) w e iY Q
|0,_,_,_,_,_,_,hw,_,_,_=>absurd hw (dc rfl)
|w+1,lv,none,sp,e,iY,hc,hw,GC,I,q=>by
  refine Ik (I.env) λa b' c d f g lH=>?_
  obtain rfl:=lH
  refine xD ?_
  wtm_at "W"
  exact q lv sp _ _ I (Z4 GC) rfl
|w+1,lv,some c,sp,e,iY,hc,hw,GC,I,q=>by
  refine Ik (I.env) λa1 a2 a3 a4 a5 a6 o7=>?_
  obtain rfl:=o7
  refine jB (hc c rfl) λyZ LG=>?_
  have b1:=b.ke I.ke
  refine xD ?_
  rw [show wj (some c)=.str c from rfl]
  wtm_at "W"
  unfold Yn FH
  dsimp only
  wtm_at "W"
  refine (XQ O G H 3 c iY k yZ (by have:=O.rank c yZ;exact DK this) (dc rfl) b1 (by wtm_at "o")).mW λji K1 h2=>?_
  refine jB (C6 O 3 c yZ) λcm cl=>?_
  have Yp:=Gv O (C:=C) (x:=c)
  generalize hR:jZ C 3 c=R at h2 cm cl Yp
  have cl:R.length<=21:=cl
  wtm_at "W"
  refine jb.mX (by wtm_at "o") (by intro _ h;cases h) (Gz h2 (by rw [mH];exact Bo cl)) ?_
  rw [mH]
  wtm_at "W"
  refine jb.mX (by wtm_at "o") (by intro _ h;cases h) (Df (Bo cl)) ?_
  refine PZ (I.rU) λob ks s1 s2 s3 s4=>?_
  have r':=I.ke.reg
  have nsp:=AH.pR s1 r'.symm
  refine F0 (n:=R.length) (Bo cl) (λx:Jk=>[some (.ref 0 B.bk),some (.str c),some (.ref η.reg η.iZ),some (.int lv),some (.ref iY.reg iY.iZ),x 0,x 1,a4,a5,a6]) (λj J jh=>RI C η iY lv c R sp j jh) (λi=>[a2,a3].getD i none) rfl ⟨I.ke.trans K1,⟨ob,ks,K1.get _ _ _ s1,?_,s3,s4⟩,h2⟩ ?_ ?_
  rotate_left
  ·intro j t x jh hlen I2 G1 qG
   have Dg:∀jl,RI C η iY lv c R sp (j+1) jl->G1 [some (.ref 0 B.bk),some (.str c),some (.ref η.reg η.iZ),some (.int lv),some (.ref iY.reg iY.iZ),some (.int j),some (.str (R.getD j c)),a4,a5,a6] jl:=λjl I=>qG (λi=>([some (.int j),some (.str (R.getD j c))]:Sl).getD i none) jl I
   clear qG
   obtain ⟨K2,⟨ob,ks,u1,u2,u3,u4⟩,u5⟩:=I2
   have qx:j<R.length:=Z5 hlen
   obtain ⟨om,AV⟩:∃g,R[j]?=some g:=⟨R[j],aR qx⟩
   rw [dS,AV] at Dg
   have MJ:om∈R:=gp AV
   have Yq:R.take (j+1)=R.take j++[om]:=by
    rw [List.take_add_one,AV];rfl
   refine ⟨_,rfl,?_⟩
   have i1:=item_str u5 (Z6 cl hlen) AV
   have b2:=b.ke K2
   wtm_at "W"
   refine jK (qE u5 (by decide +kernel)) ?_
   wtm_at "W"
   refine qA (Mx u5 (by rw [Yj om R 0 MJ,cU]) (by rw [mH];exact Bo cl)) ?_
   wtm_at "W"
   have nB:R.idxOf om<=j:=by
    rw [cY] at AV
    refine oK (AV) λhh hg=>?_
    rw [<-hg]
    exact Yk R j hh
   have amE:(R.idxOf om≠j\/Gq (qg lv c R (R.take j) sp om)=true)->qg lv c R (R.take (j+1)) sp=qg lv c R (R.take j) sp:=by
    intro h
    funext y
    rw [Yq]
    unfold qg at h ⊢
    simp only [aH,aJ]
    by_cases hy:y=om
    ·subst hy
     by_cases lE:y∈R.take j
     ·simp [lE]
     ·rcases h with h|h
      ·exact absurd (Yl R y MJ j (Z7 nB h)) lE
      ·rw [if_neg (λh=>lE h.1)] at h
       rw [if_neg (λq=>by rw [h] at q;exact nomatch q.2),if_neg (λq=>lE q.1)]
    ·simp [hy]
   have keep:(R.idxOf om≠j\/Gq (qg lv c R (R.take j) sp om)=true)->RI C η iY lv c R sp (j+1) jh:=by
    intro h
    exact ⟨K2,⟨ob,ks,u1,(amE h).symm▸u2,by exact Z8 u3,u4⟩,u5⟩
   by_cases Dh:R.idxOf om=j
   ·rw [show decide ((R.idxOf om:Int)=(j:Int))=true from decide_eq_true (Oq Dh)]
    wtm_at "W"
    refine Ay (u2.oW u1 om) ?_
    have m6:om∉R.take j:=λh=>by have:=Ym R j om h;exact Z9 Dh this
    have asg:Gq (qg lv c R (R.take j) sp om)=false->∀Q:Fl->Sl->AH->Prop,(∀jl,RI C η iY lv c R sp (j+1) jl->Q .next [some (.ref 0 B.bk),some (.str c),some (.ref η.reg η.iZ),some (.int lv),some (.ref iY.reg iY.iZ),some (.int j),some (.str om),a4,a5,a6] jl)->
      WS k (.cons (.asg (.nG (.v 2) (.v 6)) (.tup (.cons (.v 3) (.cons (.v 5) (.cons (.cmp .Lt (.v 5) (.lP (.v 4) BV (.cons (.v 1) .nil))) .nil))))) .nil) 0 [some (.ref 0 B.bk),some (.str c),some (.ref η.reg η.iZ),some (.int lv),some (.ref iY.reg iY.iZ),some (.int j),some (.str om),a4,a5,a6] jh Q:=by
     intro wh Q q
     wtm_at "W"
     refine jK (qE u5 (by decide +kernel)) ?_
     wtm_at "W"
     refine qA (Mx u5 (by rw [Yj c R 0 Yp,cU]) (by rw [mH];exact Bo cl)) ?_
     wtm_at "W"
     have ev:(.tup [.int lv,.int j,.bool (decide ((j:Int)<(R.idxOf c:Int)))]:PV)=xN (lv,j,decide (j<R.idxOf c)):=by
      unfold xN
      rw [show decide ((j:Int)<(R.idxOf c:Int))=decide (j<R.idxOf c) by rw [decide_eq_decide];exact aac]
     rw [ev]
     obtain ⟨ob',De,p1,p2,p3,p4⟩:=u2.put (by have:=u3;exact aad GC cl u3 hlen) u1 om (lv,j,decide (j<R.idxOf c))
     refine jK p1 ?_
     wtm_at "W"
     refine q _ ⟨K2.set rfl (ak _) _,⟨ob',De,AH.kX u1,?_,?_,λy hy=>?_⟩,?_⟩
     ·have:qg lv c R (R.take (j+1)) sp=λy=>if y=om then some (lv,j,decide (j<R.idxOf c)) else qg lv c R (R.take j) sp y:=by
       funext y
       rw [Yq]
       unfold qg at wh ⊢
       simp only [aH,aJ]
       by_cases hy:y=om
       ·subst hy
        rw [if_neg (λq=>m6 q.1)] at wh
        rw [if_pos ⟨.inr rfl,wh⟩,if_pos rfl,Dh]
       ·simp [hy]
      rw [this]
      exact p2
     ·exact aae u3 p3
     ·rcases p4 y hy with h|rfl
      ·exact u4 y h
      ·exact cm _ MJ
     ·rw [AH.jP (by rw [r'];exact aaf nsp)]
      exact u5
    induction hs:qg lv c R (R.take j) sp om using Option.casesOn with
   |none=>
     iterate 3 wtm_at "s"
     refine asg (by rw [hs];rfl) _ λjl h=>?_
     wtm_at "W"
     exact Dg _ h
   |some s=>
     obtain ⟨sl,sa,st⟩:=s
     have i3:=u2.item u1 hs
     have i4:jD tab (xN (sl,sa,st)) (.int 2) jh=some (.bool st):=rfl
     induction st using Bool.casesOn with
    |true=>
      wtm_at "W"
      exact Dg _ (keep (.inr (by rw [hs];rfl)))
    |false=>
      iterate 14 wtm_at "s"
      refine asg (by rw [hs];rfl) _ λjl h=>?_
      wtm_at "W"
      exact Dg _ h
   ·rw [show decide ((R.idxOf om:Int)=(j:Int))=false from decide_eq_false (aag Dh)]
    wtm_at "W"
    exact Dg _ (keep (.inl Dh))
  ·intro x jh I2
   obtain ⟨K2,⟨ob,ks,u1,u2,u3,u4⟩,u5⟩:=I2
   have b2:=b.ke K2
   have i1:=XJ G b2
   rw [List.take_length] at u2
   refine nY (G.above) λd u e1 e2=>?_
   have i2:jD tab (.ref 0 B.ab) (.str c) jh=some (wj (C.jt c)):=lF (b2 _ _ e1) (by rw [e2,H.above c yZ];rfl)
   wtm_at "W"
   refine lS (v:=.int (lv+1)) (u:=jh) rfl ?_
   wtm_at "W"
   refine Yo hk w (lv+1) (C.jt c) _ _ _ (λp hp=>by have:=O.jt c yZ p hp;exact ⟨this.1,av this.2 (cj LG)⟩) (Ot LG) (aah GC) ⟨K2,⟨ob,ks,u1,u2,by exact aai cl u3,u4⟩,_,_,_,_,_,_,rfl⟩ λGA GB e jl I3 Di xQ=>q GA GB e jl I3 Di ?_
   rw [xQ,<-hR]
   rfl
  ·have:qg lv c R (R.take 0) sp=sp:=by
    funext y
    unfold qg
    rw [if_neg (λh=>by simp at h)]
   show s8 ob (qg lv c R (R.take 0) sp) ks
   rw [this]
   exact s2
end
end
section
theorem Dj{α:Type}[DecidableEq α]:∀(l m:List α),l.Nodup->(∀x∈l,x∈m)->l.length<=m.length
|[],m,_,_=>bx _
|x::l,m,hn,h=>by
  rw [bw] at hn
  refine wD (gG (h x (by simp))) λa b lH=>?_
  obtain rfl:=lH
  have:=Dj l (a++b) hn.2 λy hy=>by
   have h1:=h y (by simp [hy])
   simp only [aH,aB] at h1 ⊢
   rcases h1 with h1|rfl|h1
   ·exact .inl h1
   ·exact absurd hy hn.1
   ·exact .inr h1
  simp only [aE,aZ] at this ⊢
  exact abG this
theorem amF{r:Nat}(h:η.get r i=some (.list l))(h1:2<=l.length)(h2:l.length<=60)(hs:wN l=some l'):qk tab (.builtin "sorted") [.ref r i] η=some (.ref η.reg η.iZ,η.add (.list l')):=jC (o:=nZ (.ref r i) η) (nJ h) (kP (sP (dm.mpr h1) (dm.mpr h2)) (uf hs rfl))
section
variable(O:lD C)(G:s6 B)(H:CB C B)(b:BW B η)
include O G H b
theorem amG(hn:n∈C.ns)(h2:2<=(C.line n).length)(hK:120<=K):jb K (.st (.ref 1157)) [.ref 0 B.bk,.str n] η λv iY=>∃j,v=.ref η.reg j/\Ke η iY/\iY.get η.reg j=some (.list (jw (C.line n))):=by
 refine jb.le (k:=120) ?_ hK
 refine jb.v9 8 (as:=[.ref 0 B.bk,.str n]) 11 ala (by wtm_at "o") rfl (by kernel_rfl) ?_;intro _ _
 unfold FH
 wtm_at "W"
 refine Yo (k:=120 - (13+11+1)) O G H b (dc rfl) 11 0 (some n) (λJ=>none) _ _ (λc hc=>by cases hc;exact ⟨hn,by have:=O.deep n hn;exact abH this⟩) (dc rfl) (dc rfl) ⟨(Ke.refl η).add _,⟨.jm,[],AH.jF _ _,.inl ⟨rfl,rfl,λJ=>rfl⟩,by simp,λy h=>nomatch h⟩,_,_,_,_,_,_,rfl⟩ λlv sp e ji I hlv xQ=>?_
 refine Ik (I.env) λa1 a2 a3 a4 a5 a6 o7=>?_
 obtain rfl:=o7
 refine PZ (I.rU) λob ks s1 s2 s3 s4=>?_
 have Yr:∀g,sp g=nM C 11 0 (some n) g:=λg=>by
  rw [xQ,X4]
  dsimp only
  cases nM C 11 0 (some n) g<;>rfl
 have LS:=Gx O 11 0 (some n) λc hc=>by cases hc;exact ⟨hn,by have:=O.deep n hn;exact HK this⟩
 have hL:C.qe (some n)=C.line n:=rfl
 have mem:∀g,g∈C.line n↔g∈ks:=λg=>by rw [<-hL,<-LS.mem,<-s2.mem,Yr]
 let f:Str->Spot:=λg=>(sp g).getD (0,0,false)
 have hf:∀g∈ks,sp g=some (f g):=λg hg=>by
  have:=(s2.mem g).mpr hg
  show sp g=some ((sp g).getD _)
  induction h:sp g using Option.casesOn with
 |none=>rw [h] at this;cases this
 |some s=>rfl
 have Gw:(C.line n).Pairwise (Gn f):=by
  have:=LS.Gw
  rw [hL] at this
  refine this.imp_of_mem λ{x y} hx hy Dd=>?_
  have h1:=hf x ((mem x).mp hx)
  have h2:=hf y ((mem y).mp hy)
  rw [Yr] at h1 h2
  exact Dd _ _ h1 h2
 have nL:(C.line n).Nodup:=LS.nodup
 obtain ⟨lm,_⟩:=AB O 9 hn (by have:=O.deep n hn;exact yd this)
 have r1:=I.ke.reg
 rcases s2 with ⟨rfl,_,_⟩|⟨d,u,rfl,hd,nk,gd⟩
 ·have:C.line n=[]:=gF.mpr λg hg=>by have:=(mem g).mp hg;cases this
  rw [this] at h2
  simp at h2
 have amH:=X3 f ks (C.line n) nk nL mem Gw
 have MN:=Dj ks (C.line n) nk λx hx=>(mem x).mpr hx
 have amJ:=Dj (C.line n) ks nL λx hx=>(mem x).mp hx
 have MP:=Dj (C.line n) C.ns nL lm
 have few:=O.few
 have nB:d.length=ks.length:=by rw [<-hd,aC]
 wtm_at "W"
 refine rH ?_
 wtm_at "s";wtm_at "s"
 refine rH ?_
 wtm_at "W"
 refine ⟨.keys η.reg η.iZ u d.length,?_,rfl,?_⟩
 ·exact jC s1 (kP (lM (abI (by assumption) MN nB)) rfl)
 refine W5 (f:=.str) (all:=ks) (S:=.keys η.reg η.iZ u d.length) (Inv:=λdn e iY=>(Ke ji iY/\iY.get ji.reg ji.iZ=some (.list (dn.map (nG f))))/\∃y,e=[some (.ref 0 B.bk),some (wj none),some (.ref η.reg η.iZ),some (.int lv),a1,a2,a3,none,y,a6]) (λdn t e iY AW I=>?_) ?_ ?_ [] _ _ _ rfl (by show ks.length<d.length+1;rw [nB];exact bG _) ⟨⟨(Ke.refl _).add _,AH.jF _ _⟩,_,rfl⟩
 ·refine jC (WV (I.1.1.get _ _ _ s1)) (kP (sP (bZ u) (bZ d.length)) (congrArg some ?_))
  have:(d[dn.length]?.map λp=>(.str p.1:PV))=(ks[dn.length]?).map .str:=by
   rw [<-hd,cQ,Option.map_map];rfl
  rw [this,<-cQ]
  exact L5 AW
 ·intro dn x t e iY AW I GG qG
  refine jB I λI z=>jB I λK1 h1=>oK z λy ee=>?_
  subst ee
  refine ⟨_,rfl,?_⟩
  have hx:x∈ks:=by rw [AW];simp
  have i1:jD tab (.ref η.reg η.iZ) (.str x) iY=some (xN (f x)):=lF (K1.get _ _ _ s1) (by rw [gd,hf x hx];rfl)
  have dl:dn.length<ks.length:=by rw [AW];simp
  wtm_at "s"
  refine ⟨λJ=>?_,λh=>nomatch h⟩
  wtm_at "W"
  refine ⟨_,?_,qG _ _ ⟨⟨K1.set rfl (ak _) _,AH.kX h1⟩,_,rfl⟩⟩
  refine (rI h1).trans ?_
  rw [lM (by rw [aC];exact abJ MN MP few dl),cond_true,aV]
  rfl
 intro e jh I2
 refine jB I2 λI2 z=>jB I2 λK2 h3=>oK z λy ee=>?_
 subst ee
 wtm_at "W"
 refine jb.mX (by wtm_at "o") (by intro _ h;cases h) (amF h3 (by rw [aC];exact abK h2 amJ) (by rw [aC];exact abL MN MP few) amH) ?_
 have h4:=AH.jF jh (.list ((C.line n).map (nG f)))
 have K3:=(I.ke.trans K2).add (.list ((C.line n).map (nG f)))
 refine ⟨_,sU h4,rfl,?_⟩
 rw [sV h4,aC]
 revert h4 K3
 generalize aqN:jh.add (.list ((C.line n).map (nG f)))=jl
 intro h4 K3
 refine uh (nG f) (C.line n) (HZ (by assumption)) (λy:Option PV×Option PV=>[some (.ref 0 B.bk),some (wj none),some (.ref η.reg η.iZ),some (.int lv),a1,a2,a3,none,y.1,y.2]) (λdn J iY=>Ke jl iY/\iY.get jl.reg jl.iZ=some (.list (jw dn))) (_,_) rfl (λdn J iY h=>h.1.get _ _ _ h4) ⟨(Ke.refl _).add _,AH.jF _ _⟩ ?_ ?_
 ·intro dn x t y iY AW I GG qG
  refine jB I λK4 h5=>?_
  refine ⟨_,rfl,?_⟩
  have dl:dn.length<(C.line n).length:=by rw [AW];simp
  wtm_at "s"
  refine ⟨λJ=>?_,λh=>nomatch h⟩
  wtm_at "W"
  refine ⟨_,?_,qG (_,_) _ ⟨K4.set rfl (ak _) _,AH.kX h5⟩⟩
  refine (rI h5).trans ?_
  rw [lM (by rw [mH];exact abM MP few dl),cond_true,s7]
  rfl
 intro y jH I
 refine jB I λK4 h5=>?_
 wtm_at "W"
 refine jA ⟨_,by rw [K3.reg],K3.trans K4,?_⟩
 rw [<-K3.reg]
 exact h5
end
end
local macro_rules |`(tactic| wtm_at "new")=>`(tactic| ((wtm_at "W");wtm_at "q sZ";kernel_rfl;decide;intro ji aqO))
theorem New.add{R L:Nat}{c:Addr}(I:New η R N L c fs iY)(o:AO):New η R N L c fs (iY.add o):=⟨I.ke.add o,I.reg,I.iZ,AH.kO I.at_,I.len⟩
theorem New.attr{R L:Nat}{c:Addr}(I:New η R N L c fs iY){a:Str}(h1:ja fs a=some v)(hv:oh v=true)(h2:(jv tab.fields c).map (oN · a)=some true):jV tab (.ref R N) a iY=some v:=qU I.at_ h2 h1 hv
section
theorem amK{nm ot cl:PV}(hv:oh cl=true)(hK:10<=K):jb K (.st (.ref 633)) [nm,ot,cl] η λv iY=>v=.ref η.reg η.iZ/\Ke η iY/\jV tab v kQ iY=some cl:=by
 refine jb.le (k:=10) ?_ hK
 refine jb.yQ (as:=[.ref η.reg η.iZ,nm,ot,cl]) 0 (by kernel_rfl) (show jv tab.oA 633=some 609 by kernel_rfl) akL (by wtm_at "o") (by kernel_rfl) ?_;intro _ _
 unfold V5
 have I:=yV (η:=η) (c:=633)
 wtm_at "new";wtm_at "new";wtm_at "new"
 wtm_at "W"
 rename_i I
 exact wc ⟨rfl,rfl,I.ke,I.attr (by kernel_rfl) hv (by kernel_rfl)⟩
theorem Ys{kd nd en:PV}(hv:oh en=true)(hK:20<=K):jb K (.st (.ref 655)) [kd,nd,en] η λv iY=>v=.ref η.reg η.iZ/\Ke η iY/\jV tab v zL iY=some en:=by
 refine jb.le (k:=20) ?_ hK
 refine jb.yQ (as:=[.ref η.reg η.iZ,kd,nd,en,.none]) 0 (by kernel_rfl) (show jv tab.oA 655=some 652 by kernel_rfl) akM (by wtm_at "o") (by kernel_rfl) ?_;intro _ _
 unfold V6
 have I:=yV (η:=η) (c:=655)
 wtm_at "new";wtm_at "new";wtm_at "new";wtm_at "new";wtm_at "new"
 wtm_at "W"
 rename_i I
 have I2:=I.add (.list [])
 wtm_at "new";wtm_at "new"
 wtm_at "W"
 rename_i I
 exact wc ⟨rfl,rfl,I.ke,I.attr (by kernel_rfl) hv (by kernel_rfl)⟩
theorem amL{wd tb ca:PV}(hv:oh wd=true)(hK:20<=K):jb K (.st (.ref 754)) [wd,tb,ca] η λv iY=>v=.ref η.reg η.iZ/\Ke η iY/\jV tab v yC iY=some wd:=by
 refine jb.le (k:=20) ?_ hK
 refine jb.yQ (as:=[.ref η.reg η.iZ,wd,tb,ca]) 0 (by kernel_rfl) (show jv tab.oA 754=some 673 by kernel_rfl) akN (by wtm_at "o") (by kernel_rfl) ?_;intro _ _
 unfold V7
 have I:=yV (η:=η) (c:=754)
 wtm_at "new";wtm_at "new";wtm_at "new"
 wtm_at "W"
 rename_i I
 have I2:=I.add (.list [])
 wtm_at "new";wtm_at "new";wtm_at "new"
 wtm_at "W"
 rename_i I
 exact wc ⟨rfl,rfl,I.ke,I.attr (by kernel_rfl) hv (by kernel_rfl)⟩
theorem amM{re nm ar bl kd:PV}(hv:oh kd=true)(hK:20<=K):jb K (.st (.ref 515)) [re,nm,ar,bl,kd] η λv iY=>v=.ref η.reg η.iZ/\Ke η iY/\jV tab v vQ iY=some kd:=by
 refine jb.le (k:=20) ?_ hK
 refine jb.yQ (as:=[.ref η.reg η.iZ,re,nm,ar,bl,kd,.none,.none]) 0 (by kernel_rfl) (show jv tab.oA 515=some 505 by kernel_rfl) akJ (by wtm_at "o") (by kernel_rfl) ?_;intro _ _
 unfold V3
 have I:=yV (η:=η) (c:=515)
 wtm_at "new";wtm_at "new";wtm_at "new";wtm_at "new";wtm_at "new";wtm_at "new";wtm_at "new";wtm_at "new"
 wtm_at "W"
 rename_i I
 exact wc ⟨rfl,rfl,I.ke,I.attr (by kernel_rfl) hv (by kernel_rfl)⟩
theorem amN{cd pc st cl:PV}(hv:oh cl=true)(hK:20<=K):jb K (.st (.ref 486)) [cd,pc,st,sc,cl] η λv iY=>v=.ref η.reg η.iZ/\Ke η iY/\jV tab v kQ iY=some cl:=by
 refine jb.le (k:=20) ?_ hK
 refine jb.yQ (as:=[.ref η.reg η.iZ,cd,pc,st,sc,cl]) 0 (by kernel_rfl) (show jv tab.oA 486=some 469 by kernel_rfl) akI (by wtm_at "o") (by kernel_rfl) ?_;intro _ _
 unfold V0
 have I:=yV (η:=η) (c:=486)
 wtm_at "new";wtm_at "new";wtm_at "new";wtm_at "new";wtm_at "new";wtm_at "new";wtm_at "new";wtm_at "new";wtm_at "new";wtm_at "new";wtm_at "new";wtm_at "new"
 wtm_at "W"
 rename_i I
 exact wc ⟨rfl,rfl,I.ke,I.attr (by kernel_rfl) hv (by kernel_rfl)⟩
theorem amO{me en ar bl nu ne de:PV}(hv:oh me=true)(hK:20<=K):jb K (.st (.ref 451)) [me,en,ar,bl,nu,ne,de,.str EJ] η λv iY=>v=.ref η.reg η.iZ/\Ke η iY/\jV tab v yz iY=some me:=by
 refine jb.le (k:=20) ?_ hK
 refine jb.yQ (as:=[.ref η.reg η.iZ,me,en,ar,bl,nu,ne,de,.str EJ,.bool false]) 0 (by kernel_rfl) (show jv tab.oA 451=some 441 by kernel_rfl) akH (by wtm_at "o") (by kernel_rfl) ?_;intro _ _
 unfold VZ
 have I:=yV (η:=η) (c:=451)
 wtm_at "new";wtm_at "new";wtm_at "new";wtm_at "new";wtm_at "new";wtm_at "new";wtm_at "new";wtm_at "new";wtm_at "new";wtm_at "new";wtm_at "new"
 wtm_at "W"
 rename_i I
 exact wc ⟨rfl,rfl,I.ke,I.attr (by kernel_rfl) hv (by kernel_rfl)⟩
end
section
theorem xR(S:jQ η iY){r:Nat}(hr:r≠1){a:Str}(h:jV tab (.ref r i) a η=some v):jV tab (.ref r i) a iY=some v:=by
 exact jg (show (η.ins r i).bind _=_ from h) λc hc h=>jC (o:=gR (.ref r i)) rfl (jC (FL (S.get _ _ _ hr (Er hc))) h)
def uq(η:AH)(a:Str)(me:PV)(v:PV):Prop:=v=.none\/∃i j,v=.ref 2 i/\jV tab (.ref 2 i) a η=some (.ref 2 j)/\jV tab (.ref 2 j) yz η=some me
theorem uq.ka(S:jQ η iY){a:Str}{me:PV}(h:uq η a me v):uq iY a me v:=by
 rcases h with h|⟨i,j,h1,h2,h3⟩
 ·exact .inl h
 ·exact .inr ⟨i,j,h1,xR S (dc rfl) h2,xR S (dc rfl) h3⟩
theorem uq.frm{a:Str}{me:PV}(h:uq η a me v):Mq η a me v:=by
 rcases h with h|⟨i,j,rfl,h2,h3⟩
 ·exact .inl h
 ·exact .inr ⟨_,rfl,h2,h3⟩
set_option genCtorIdx false in
structure Way where
 how:Str
 env:Bool
 kind:Str
 frm:Bool
 lets:Bool
def amP(en fr:PV)(w:Way):PV:=.tup [.str w.how,cond w.env en .none,.str w.kind,cond w.frm fr .none,.bool w.lets]
structure Yt(g:Str)(sn:Bool)(w:Way):Prop where
 how:w.how=kQ\/w.how=pJ\/w.how=pK
 kind:w.kind=kQ\/w.kind=pJ\/w.kind=pK\/w.kind=zR
 ref:(!sq w.how kQ || sq g kh || (sq g lO && w.env && sn))=w.lets
 hid:((sq w.kind pJ || sq w.kind pK) || sq g kh || (sq w.kind kQ && sq g lO && w.frm && sn))=w.lets
theorem amQ(hv:Val C v h):oh v=true:=by
 rcases hv with ⟨rfl,_⟩|⟨rfl,_⟩|⟨i,fs,o,c,rfl,_⟩|⟨n,_,rfl,_⟩<;>rfl
def Yu:jn:=match xB with
|.cons _ (.cons _ (.cons _ (.cons _ (.cons _ (.cons _ (.cons _ (.cons _ (.cons _ (.cons _ (.cons (.for _ _ _ b) _))))))))))=>b
|_=>.nil
section
variable(O:lD C)
include O
theorem amR(F:WF C iY){w:Way}{s o hs:Str}{me value ev en fr AX:PV}{Dk GD Yv Yw Yx p25 Yy Yz YB:Option PV}{Q:Fl->Sl->AH->Prop}
  (hk:250<=k) (hw:Yt g (sends C hs o) w) (hg:g=kh\/g=lO\/g=nj) (ho:o∈C.ns) (hE:kZ C iY ev s g o) (rO:Val C me hs) (hen:uq iY kQ me en) (wh:uq iY kQ me fr) (amS:lW en=false) (amT:lW fr=false) (amU:oh en=true)
  (hd:jV tab AX yC iY=some (.ref 1 C.jI)) (hdk:∃i,AX=.ref 2 i)
  (q:∀kR x,WF C kR->jQ iY kR->Q .next [p0,p1,p2,p3,p4,p5,some value,some (.str C.name),p8,some ev,qS,qT,rG,some AX,some (.str w.how),Dk,some (.str g),GD,Yv,Yw,Yx,some (cond w.env en .none),some (.str w.kind),some (cond w.frm fr .none),some (.bool w.lets),x,Yy,Yz,YB] kR) (h0:p0=some (.ref 1 C.jI)) :
  WS k Yu 0 [p0,p1,p2,p3,p4,p5,some value,some (.str C.name),p8,some ev,qS,qT,rG,some AX,some (.str w.how),Dk,some (.str g),GD,Yv,Yw,Yx,some (cond w.env en .none),some (.str w.kind),some (cond w.frm fr .none),some (.bool w.lets),p25,Yy,Yz,YB] iY Q:=by
 subst h0
 obtain ⟨how,env,kind,frm,lets⟩:=w
 obtain ⟨w1,w2,w3,w4⟩:=hw
 dsimp only at w1 w2 w3 w4 q ⊢
 unfold Yu xB
 dsimp only
 have hev:oh (cond env en .none)=true:=by cases env;rfl;exact amU
 wtm_at "W"
 refine (Ys hev (by wtm_at "o")).mW λji K1 h2=>?_
 have S1:jQ iY ji:=(((Ke.refl iY).add (.list [])).trans K1).ka
 have F1:WF C ji:=F.ke (((Ke.refl iY).add (.list [])).trans K1)
 have E1:=hE.ke S1.inst
 have fe:uq ji kQ me (cond env en .none):=by
  cases env
  ·exact .inl rfl
  ·exact hen.ka S1
 have enn:lW (cond env en .none)=!env:=by cases env;rfl;exact amS
 wtm_at "W"
 refine (ama (rc:=value) (how:=how) O F1 _ h2 fe.frm E1 ho rO hg w1 (by wtm_at "o")).pe λv jh h3 F2 S2=>?_
 rw [enn,gD,w3] at h3
 have qF:=S1.trans S2
 have fin:∀(e:Sl) (R:PV->AH->Prop),look e 9=some ev->(∀jl,WF C jl->jQ jh jl->R (.bool (!lets)) jl)->jb k (.st (.ref 515)) [value,.str C.name,.ref jh.reg jh.iZ,.none,.str kind] (jh.add (.list [])) (λv η=>WL k (.cons (.v 9) .nil) e η λvs η=>jb k (.st (.ref 526)) (AX::(cond frm fr .none)::v::vs) η R):=by
  intro e R he hR
  refine (amM rfl (by wtm_at "o")).mW λjl K3 h4=>?_
  have S3:jQ jh jl:=(((Ke.refl jh).add (.list [])).trans K3).ka
  have F3:WF C jl:=F2.ke (((Ke.refl jh).add (.list [])).trans K3)
  have E3:=(E1.ke S2.inst).ke S3.inst
  have ff:uq jl kQ me (cond frm fr .none):=by
   cases frm
   ·exact .inl rfl
   ·exact wh.ka (qF.trans S3)
  have fnn:lW (cond frm fr .none)=!frm:=by cases frm;rfl;exact amT
  obtain ⟨i,rfl⟩:=hdk
  have d3:=xR (qF.trans S3) (dc rfl) hd
  wtm_at "s"
  refine pQ he ?_
  wtm_at "s"
  refine (al9 O F3 d3 ff.frm h4 E3 ho rO hg w2 (by wtm_at "o")).pe λv jH h5 F4 S4=>?_
  rw [fnn,gD,w4] at h5
  rw [h5]
  exact hR _ F4 (S3.trans S4)
 induction lets using Bool.casesOn with
|true=>
  rw [if_pos rfl] at h3
  subst h3
  wtm_at "W"
  refine fin _ _ rfl λjl F3 S3=>?_
  wtm_at "W"
  exact q _ _ F3 (qF.trans S3)
|false=>
  rw [if_neg (by simp)] at h3
  subst h3
  have MQ:sq g g=true:=jS.mpr rfl
  wtm_at "W"
  refine alq (by show some (!sq g g)=_;rw [MQ];rfl) ?_
  wtm_at "W"
  refine fin _ _ rfl λjl F3 S3=>?_
  wtm_at "W"
  exact q _ _ F3 (qF.trans S3)
end
end
theorem YC(C:Cfg)(P R:Str->Prop):∀(l:List Str) (sg:Option Str),(∀n∈l,∀s g o,C.has n=some (s,g,o)->P g/\R o)->(∀g,sg=some g->P g)->∀g o,nK C sg l=some (g,o)->P g/\R o
|[],sg,_,_,g,o,h=>by cases h
|n::r,sg,hl,hs,g,o,h=>by
  rw [Mk] at h
  have ih:=YC C P R r
  induction hh:C.has n using Option.casesOn with
 |none=>
   rw [hh] at h
   exact ih sg (λn hn=>hl n (by simp [hn])) hs g o h
 |some p=>
   obtain ⟨s',g',o'⟩:=p
   rw [hh] at h
   dsimp only at h
   have h1:=hl n (by simp) s' g' o' hh
   have hg:P (sg.getD g'):=by
    induction uZ:sg using Option.casesOn with
   |none=>exact h1.1
   |some x=>exact hs x uZ
   split at h
   ·exact ih (some (sg.getD g')) (λn hn=>hl n (by simp [hn])) (λx hx=>by cases hx;exact hg) g o h
   ·split at h
    ·exact xn h
    ·refine xp h λCM yU=>?_
     try clear h
     obtain rfl:=CM
     obtain rfl:=yU
     exact ⟨hg,h1.2⟩
structure YD(C:Cfg)(md:Nat):Prop where
 amV:∀n∈C.ns,∀s g o,C.has n=some (s,g,o)->g=kh\/g=lO\/g=nj
 cnt:∀n∈C.ns,∀s g o,C.has n=some (s,g,o)->CZ o=qW C o
 mods:∃l u,C.fix md=some (.sd l u)/\∀n∈C.ns,∀s g o,C.has n=some (s,g,o)->ja l o=some (C.m o)
theorem Dl{r:Nat}{Q:PV->AH->Prop}(h:η.get r i=some (.list l))(h':η.get r' i'=some (.list l'))(hl:l.length+l'.length<=65536)(q:∀jh j,Ke η jh->jh.get η.reg j=some (.list (l++l'))->η.iZ<=j->Q (.ref η.reg j) jh):∃v iY,qK .Add (.ref r i) (.ref r' i') η=some (v,iY)/\Q v iY:=
 lS (add_lists h h' hl) (q _ _ ((Ke.refl η).add _) (AH.jF _ _) (ak _))
theorem YF{r:Nat}(h:η.get r i=some (.list [v])):qK .Mult (.ref r i) (.int 3) η=some (.ref η.reg η.iZ,η.add (.list [v,v,v])):=jC (nJ h) rfl
theorem MR{r:Nat}{b:Bool}(h:η.get r i=some (.list l))(h':η.get r' i'=some (.list l'))(hl:l.length=l'.length)(mh:¬ (r=r'/\i=i'))(he:By l l'=some b):uB (.ref r i) (.ref r' i') η=some b:=jC (o:=nZ (.ref r i) η) (nJ h) (jC (o:=nZ (.ref r' i') η) (nJ h') (kP (by rw [hl];exact bZ _) (cnf ((cM _).mp (FN mh)) he)))
theorem amW(v:Str)(l:List Str):rZ (.str v) (jw l)=some (decide (v∈l)):=by
 induction l with
|nil=>rfl
|cons a r ih=>exact jC (rfl:oB (.str a) (.str v)=some (sq a v)) (uf ih (congrArg some (by
   rw [fC,bC,jS,decide_eq_true_iff,decide_eq_true_iff,aB]
   exact or_congr_left eq_comm)))
theorem y9{r:Nat}{l:List Str}(h:η.get r i=some (.list (jw l)))(v:Str):mQ .In (.str v) (.ref r i) η=some (decide (v∈l)):=by
 show (η.get r i).bind _=_
 exact jC h (amW v l)
theorem AY{α β:Type}(f:α->β):∀(t:List (Str×α)) (x:Str),ja (t.map λp=>(p.1,f p.2)) x=(ja t x).map f
|[],_=>rfl
|(y,v)::r,x=>by
  show cond (sq y x) (some (f v)) (ja (r.map λp=>(p.1,f p.2)) x)=(cond (sq y x) (some v) (ja r x)).map f
  induction sq y x using Bool.casesOn with
 |true=>rfl
 |false=>exact AY f r x
theorem amX(o:Str):getM [(j6,.str ju),(lu,.str jE),(jT,.str jE),(m7,.str lJ)] [.str o,.str o]=some (.str (CZ o)):=by
 have:=AY PV.str [(j6,ju),(lu,jE),(jT,jE),(m7,lJ)] o
 unfold CZ
 show some ((ja _ _).getD _)=_
 congr 1
 rw [show ([(j6,PV.str ju),(lu,.str jE),(jT,.str jE),(m7,.str lJ)]:List (Str×PV))=([(j6,ju),(lu,jE),(jT,jE),(m7,lJ)]:List (Str×Str)).map λp=>(p.1,PV.str p.2) from rfl,this]
 cases ja [(j6,ju),(lu,jE),(jT,jE),(m7,lJ)] o<;>rfl
def GF(g:Str)(sn:Bool):List Way:=[⟨kQ,true,kQ,true,sq g kh || (sq g lO && sn)⟩,⟨pJ,true,pJ,true,true⟩,⟨pK,true,pK,true,true⟩,⟨kQ,false,zR,true,sq g kh⟩,⟨kQ,false,kQ,false,sq g kh⟩]
theorem amY(hg:g=kh\/g=lO\/g=nj)(sn:Bool):∀w∈GF g sn,Yt g sn w:=by
 intro w hw
 unfold GF at hw
 simp only [aB,aU,or_false] at hw
 rcases hw with rfl|rfl|rfl|rfl|rfl
 ·refine ⟨.inl rfl,.inl rfl,?_,?_⟩
  all_goals
   dsimp only
   rcases hg with rfl|rfl|rfl<;>cases sn<;>kernel_rfl
 ·refine ⟨.inr (.inl rfl),.inr (.inl rfl),?_,?_⟩
  all_goals
   dsimp only
   rcases hg with rfl|rfl|rfl<;>cases sn<;>kernel_rfl
 ·refine ⟨.inr (.inr rfl),.inr (.inr (.inl rfl)),?_,?_⟩
  all_goals
   dsimp only
   rcases hg with rfl|rfl|rfl<;>cases sn<;>kernel_rfl
 ·refine ⟨.inl rfl,.inr (.inr (.inr rfl)),?_,?_⟩
  all_goals
   dsimp only
   rcases hg with rfl|rfl|rfl<;>cases sn<;>kernel_rfl
 ·refine ⟨.inl rfl,.inl rfl,?_,?_⟩
  all_goals
   dsimp only
   rcases hg with rfl|rfl|rfl<;>cases sn<;>kernel_rfl
noncomputable def cut:Nat->jn->jn->jn
|n+1,.cons s t,r=>.cons s (cut n t r)
|_,_,r=>r
def MT:jn:=kj 8 xB
theorem amZ:xB=cut 8 xB MT:=rfl
section
theorem am0(O:lD C)(G:s6 B)(H:CB C B)(F:WF C η)(b:BW B η){md:Nat}(A:YD C md){me value:PV}{hs hr:Str}(rO:Val C me hs)(za:Val C value hr)(YG:hs∈C.ns)(MV:hr∈C.ns){sl rl:Nat}(GH:η.get 2 sl=some (.list (jw (C.line hs))))(MY:η.get 2 rl=some (.list (jw (C.line hr))))(hK:300<=K):
  jb K (.st (.ref 1167)) [.ref 1 C.jI,.ref 0 B.bk,.ref 1 md,.tup [me,.ref 2 sl],.tup [value,.ref 2 rl]] η λv iY=>v=.bool true/\WF C iY/\jQ η iY:=by
 refine jb.le (k:=300) ?_ hK
 refine jb.v9 24 (as:=[.ref 1 C.jI,.ref 0 B.bk,.ref 1 md,.tup [me,.ref 2 sl],.tup [value,.ref 2 rl]]) 0 alc (by wtm_at "o") rfl (by kernel_rfl) ?_;intro _ _
 rw [amZ]
 unfold xB
 dsimp only [cut]
 have am1:=amQ rO
 obtain ⟨lm,ll⟩:=AB O 9 MV (by have:=O.deep hr MV;exact yd this)
 obtain ⟨sm,aqP⟩:=AB O 9 YG (by have:=O.deep hs YG;exact yd this)
 have nm:=amn G b
 rw [<-H.name] at nm
 have t1:jD tab (.tup [me,.ref 2 sl]) (.int 0) η=some me:=rfl
 have t2:jD tab (.tup [value,.ref 2 rl]) (.int 0) η=some value:=rfl
 have t3:jD tab (.tup [value,.ref 2 rl]) (.int 1) η=some (.ref 2 rl):=rfl
 wtm_at "W"
 refine (amy G H b lm (aew ll) MY (by wtm_at "o")).Ak λfv ji xS K1=>?_
 have F1:=F.ke K1
 have m1:=F1.wm O (nm:=rz) (by simp) (f:=869) (by kernel_rfl)
 wtm_at "W"
 refine (Gi O F1 za (by wtm_at "o")).mW λiY J h3=>?_
 subst h3
 wtm_at "W"
 refine (Mm O F1 MV (by wtm_at "o")).pe λev jh F2 S2 GJ=>?_
 wtm_at "W"
 refine (amO am1 (by wtm_at "o")).mW λjl K3 MZ=>?_
 have YH:=((Ke.refl jh).add (.list [])).trans K3
 have r2:=F2.reg
 rw [AH.nH,r2] at MZ ⊢
 generalize (jh.add (.list [])).iZ=jc at MZ ⊢
 wtm_at "W"
 refine (amK rfl (by wtm_at "o")).mW λjH K4 M8=>?_
 have M9:=((Ke.refl jl).add .jm).trans K4
 have r3:jl.reg=2:=YH.reg.trans r2
 rw [AH.nH,r3] at M8 ⊢
 generalize (jl.add .jm).iZ=je at M8 ⊢
 wtm_at "W"
 refine (amN rfl (by wtm_at "o")).mW λjY K5 Nb=>?_
 have GK:=((Ke.refl jH).add (.list [])).trans K5
 have r4:jH.reg=2:=M9.reg.trans r3
 rw [AH.nH,r4] at Nb ⊢
 generalize (jH.add (.list [])).iZ=jf at Nb ⊢
 wtm_at "W"
 refine (amL rfl (by wtm_at "o")).mW λnW K6 Nc=>?_
 have GL:=((Ke.refl jY).add .jm).trans K6
 have r5:jY.reg=2:=GK.reg.trans r4
 rw [AH.nH,r5] at Nc ⊢
 generalize (jY.add .jm).iZ=jd at Nc ⊢
 have Nf:=((YH.trans M9).trans GK).trans GL
 have F6:=F2.ke Nf
 have S6:jQ η nW:=(K1.ka.trans S2).trans Nf.ka
 have b6:=b.ka S6
 have YJ:=xR (((M9.trans GK).trans GL).ka) (dc rfl) MZ
 have am2:=xR ((GK.trans GL).ka) (dc rfl) M8
 have am3:=xR (GL.ka) (dc rfl) Nb
 have fen:uq nW kQ me (.ref 2 je):=.inr ⟨_,_,rfl,am2,YJ⟩
 have ffr:uq nW kQ me (.ref 2 jf):=.inr ⟨_,_,rfl,am3,YJ⟩
 have am4:=S6.get _ _ _ (dc rfl) GH
 wtm_at "W"
 induction hf:nK C none (C.line hr) using Option.casesOn with
|none=>
  rw [hf] at GJ xS
  have:ev=.none:=GJ
  have xS:fv=.none:=xS
  subst this xS
  have r6:=F6.reg
  wtm_at "W"
  refine rH ?_
  wtm_at "W"
  have hA:=AH.jF nW (.list [.str kQ,.str pJ,.str pK])
  have KA:=(Ke.refl nW).add (.list [.str kQ,.str pJ,.str pK])
  revert hA KA
  generalize hAA:nW.add (.list [.str kQ,.str pJ,.str pK])=AZ
  intro hA KA
  have rA:AZ.reg=2:=KA.reg.trans r6
  rw [r6] at hA
  rw [r6]
  refine Xa .str [kQ,pJ,pK] (dc rfl) (λa:Option PV=>[some (.ref 1 C.jI),some (.ref 0 B.bk),some (.ref 1 md),some (.tup [me,.ref 2 sl]),some (.tup [value,.ref 2 rl]),some me,some value,some (.str C.name),some .none,some .none,some (.ref 2 jc),some (.ref 2 je),some (.ref 2 jf),some (.ref 2 jd),none,none,none,none,none,none,none,none,none,none,none,none,none,a,none]) (λd J iY=>Ke AZ iY/\∃ts:List (Str×Nat),ts.map az=d/\iY.get 2 AZ.iZ=some (.list (ts.map λp=>.tup [.str p.1,.ref 2 p.2]))) _ rA hA rfl rfl (λJ J J I=>I.1.get _ _ _ hA) ⟨(Ke.refl _).add _,[],rfl,by have:=AH.jF AZ (.list []);rw [rA] at this;exact this⟩ (λd x t a iY hd I GG qG=>?_) (λa GN I=>?_)
  ·refine jB I λSB I2=>?_
   refine jL I2 λts ht GO=>?_
   refine ⟨_,rfl,W8 ?_ (by dsimp only [qB,qC,dU,bq,bW,bN])⟩;intro _ _
   have rB:iY.reg=2:=SB.reg.trans rA
   have hl:ts.length<=3:=by rw [<-aC (f:=az),ht];have:([kQ,pJ,pK]:List Str).length=3:=rfl;rw [hd] at this;simp at this;exact aex this
   wtm_at "W"
   refine (Ys rfl (by wtm_at "o")).mW λGP KC J=>?_
   have Ng:=((Ke.refl iY).add (.list [])).trans KC
   rw [AH.nH,rB]
   wtm_at "W"
   have Nh:=Ng.get _ _ _ GO
   have lt:=AH.pR Nh (Ng.reg.trans rB).symm
   refine ⟨GP.set 2 AZ.iZ (.list ((ts.map λp=>.tup [.str p.1,.ref 2 p.2])++[.tup [.str x,.ref 2 (iY.add (.list [])).iZ]])),?_,qG _ _ ⟨(SB.trans Ng).set rA.symm (ak _) _,ts++[(x,(iY.add (.list [])).iZ)],?_,?_⟩⟩
   ·refine (rI Nh).trans ?_
    rw [lM (by rw [aC];exact aey hl)]
    rfl
   ·rw [aV,ht];rfl
   ·rw [AH.kX Nh,aV];rfl
  refine jB I λSB I2=>?_
  refine jL I2 λts ht GO=>?_
  have rB:GN.reg=2:=SB.reg.trans rA
  have YK:=KA.trans SB
  have FB:=F6.ke YK
  have Di:ts.length=3:=by rw [<-aC (f:=az),ht];rfl
  wtm_at "W"
  refine rH ?_
  wtm_at "W"
  refine Xa (λp:Str×Nat=>.tup [.str p.1,.ref 2 p.2]) ts (aez Di) (λa:Option PV×Option PV=>[some (.ref 1 C.jI),some (.ref 0 B.bk),some (.ref 1 md),some (.tup [me,.ref 2 sl]),some (.tup [value,.ref 2 rl]),some me,some value,some (.str C.name),some .none,some .none,some (.ref 2 jc),some (.ref 2 je),some (.ref 2 jf),some (.ref 2 jd),none,some (.ref 2 AZ.iZ),none,none,none,none,none,none,none,none,none,none,none,a.1,a.2]) (λd J iY=>Ke GN iY/\iY.get 2 GN.iZ=some (.list (d.map λJ=>.str pZ))) (_,_) rB GO rfl rfl (λJ J J I=>I.1.get _ _ _ GO) ⟨(Ke.refl _).add _,by have:=AH.jF GN (.list []);rw [rB] at this;exact this⟩ (λd x t a iY hd I GG qG=>?_) (λa GP I=>?_)
  ·refine jB I λSC h5=>?_
   refine ⟨_,rfl,W8 ?_ (by dsimp only [qB,qC,dU,bq,bW,bN])⟩;intro _ _
   have dl:d.length<ts.length:=by rw [hd];simp
   wtm_at "W"
   refine (amb (FB.ke SC) (by wtm_at "o")).same ?_
   refine ⟨_,?_,qG (_,_) _ ⟨SC.set rB.symm (ak _) _,AH.kX h5⟩⟩
   refine (rI h5).trans ?_
   rw [lM (by rw [aC];exact aeA Di dl),cond_true,aV]
   rfl
  refine jB I λSC h5=>?_
  have rC:GP.reg=2:=SC.reg.trans rB
  have am5:(ts.map λJ=>(.str pZ:PV))=[.str pZ,.str pZ,.str pZ]:=by
   obtain ⟨x,y,z,rfl⟩:∃x y z,ts=[x,y,z]:=by
    match ts,Di with
   |[x,y,z],_=>exact ⟨x,y,z,rfl⟩
   rfl
  rw [am5] at h5
  wtm_at "W"
  refine lS (YF (AH.jF _ _)) ?_
  have lt5:=AH.pR h5 rC.symm
  refine jK (f:=mQ .NotEq _ _ _) (v:=false) ?_ ?_
  ·show (uB _ _ _).map _=_
   rw [MR (b:=true) (AH.kO (AH.kO h5)) (AH.jF _ _) rfl (by rw [AH.ny];exact aeB lt5) (by kernel_rfl)]
   rfl
  have KC:=((YK.trans SC).add (.list [.str pZ])).add (.list [.str pZ,.str pZ,.str pZ])
  revert KC
  generalize (GP.add (.list [.str pZ])).add (.list [.str pZ,.str pZ,.str pZ])=ηD
  intro KC
  have FD:=F6.ke KC
  have Ni:∀g o,nK C none (C.line hr)=some (g,o)->o∈C.ns/\(g=kh\/g=lO\/g=nj):=λg' o' h=>by
   rw [hf] at h
   exact xn h
  wtm_at "W"
  refine (XE O FD za rO Ni (by wtm_at "o")).pe λv Dm h1 Dp Dq=>?_
  rw [hf] at h1
  subst h1
  wtm_at "W"
  refine (Gj O Dp za (by wtm_at "o")).pe λv am6 h1 Nj Nk=>?_
  rw [hf] at h1
  subst h1
  wtm_at "W"
  refine (Gj O Nj za (by wtm_at "o")).pe λv Ds h1 GQ qF=>?_
  rw [hf] at h1
  subst h1
  dsimp only
  wtm_at "W"
  refine lS (YF (AH.jF _ _)) ?_
  refine jK (f:=mQ .Eq _ _ _) (MR (b:=true) (AH.kO (AH.kO (AH.jF _ _))) (AH.jF _ _) rfl (by rw [AH.ny,AH.ny];exact aeC) rfl) ?_
  exact jA ⟨rfl,GQ.ke ((((Ke.refl Ds).add _).add _).add _),((((S6.trans KC.ka).trans Dq).trans Nk).trans qF).trans ((((Ke.refl Ds).add _).add _).add _).ka⟩
|some p=>
  obtain ⟨g,o⟩:=p
  rw [hf] at GJ xS
  refine oK (GJ) λs hE=>?_
  have xS:fv=.tup [.str g,.str o]:=xS
  subst xS
  have GR:=hE.ke (λr i c fs J e=>Nf.get _ _ _ e)
  obtain ⟨hg,ho,yZ,am7⟩:=YC C (λg=>g=kh\/g=lO\/g=nj) (λo=>o∈C.ns/\CZ o=qW C o/\∃l u,C.fix md=some (.sd l u)/\ja l o=some (C.m o)) (C.line hr) none (λn hn s g o h=>⟨A.amV n (lm n hn) s g o h,(O.oN n (lm n hn) s g o h).1,A.cnt n (lm n hn) s g o h,by obtain ⟨l,u,h1,h2⟩:=A.mods;exact ⟨l,u,h1,h2 n (lm n hn) s g o h⟩⟩) (λg h=>nomatch h) g o hf
  have MQ:sq g g=true:=jS.mpr rfl
  have e1:=GR.xH
  have e2:=GR.sight
  have e3:=GR.owner
  have n1:=F6.number ho
  refine nY (am7) λml mu pA s5=>?_
  have i1:jD tab (.ref 1 md) (.str o) nW=some (C.m o):=lF (F6.fix _ _ pA) s5
  have i2:jD tab (.tup [me,.ref 2 sl]) (.int 1) nW=some (.ref 2 sl):=rfl
  have main:∀lX,Ke nW lX->WS (300 - (19+0+1)) MT 0 [some (.ref 1 C.jI),some (.ref 0 B.bk),some (.ref 1 md),some (.tup [me,.ref 2 sl]),some (.tup [value,.ref 2 rl]),some me,some value,some (.str C.name),some (.tup [.str g,.str o]),some ev,some (.ref 2 jc),some (.ref 2 je),some (.ref 2 jf),some (.ref 2 jd),none,none,some (.str g),some (.str o),some (.bool (sq g kh)),some (.bool (sq g kh || (sq g lO && sends C hs o))),none,none,none,none,none,none,none,none,none] lX (nc λv iY=>v=.bool true/\WF C iY/\jQ η iY):=by
   intro lX K7
   have F7:=F6.ke K7
   have r7:=F7.reg
   unfold MT xB
   dsimp only [kj]
   wtm_at "W"
   refine Dl (AH.kO (AH.jF _ _)) (AH.jF _ _) (by simp) λwo j K8 YL J=>?_
   have YM:=(((Ke.refl lX).add _).add _).trans K8
   have F8:=F7.ke YM
   have S8:jQ nW wo:=(K7.trans YM).ka
   have r8:=F8.reg
   simp only [AH.nH,r7] at YL ⊢
   have hE8:=GR.ke S8.inst
   have am8:=fen.ka S8
   have am9:=ffr.ka S8
   have ana:=xR S8 (dc rfl) Nc
   have S08:=S6.trans S8
   clear K8
   wtm_at "W"
   refine Ax (amP (.ref 2 je) (.ref 2 jf)) (GF g (sends C hs o)) (by unfold GF;simp) (λa:Option PV×Option PV×Option PV×Option PV×Option PV×Option PV=>[some (.ref 1 C.jI),some (.ref 0 B.bk),some (.ref 1 md),some (.tup [me,.ref 2 sl]),some (.tup [value,.ref 2 rl]),some me,some value,some (.str C.name),some (.tup [.str g,.str o]),some ev,some (.ref 2 jc),some (.ref 2 je),some (.ref 2 jf),some (.ref 2 jd),a.1,none,some (.str g),some (.str o),some (.bool (sq g kh)),some (.bool (sq g kh || (sq g lO && sends C hs o))),some (.ref 2 j),a.2.1,a.2.2.1,a.2.2.2.1,a.2.2.2.2.1,a.2.2.2.2.2,none,none,none]) (λd J iY=>WF C iY/\jQ wo iY) (_,_,_,_,_,_) rfl (λJ J J I=>I.2.get _ _ _ (dc rfl) YL) ⟨F8,jQ.refl _⟩ (λd w t a iY hd I GG qG=>?_) (λa A0 I=>?_)
   ·refine jB I λF9 S9=>?_
    refine ⟨_,rfl,?_⟩
    simp only [qB,qC]
    have hw:=amY hg (sends C hs o) w (by rw [hd];simp)
    refine amR (w:=w) (AX:=.ref 2 jd) O F9 (dc rfl) hw hg ho (hE8.ke S9.inst) rO (am8.ka S9) (am9.ka S9) rfl rfl rfl (xR S9 (dc rfl) ana) ⟨_,rfl⟩ (λDm x Dp Dq=>?_) rfl
    exact qG (_,_,_,_,_,_) _ ⟨Dp,S9.trans Dq⟩
   ·intro _
    refine jB I λF9 S9=>?_
    have Ni:∀g o,nK C none (C.line hr)=some (g,o)->o∈C.ns/\(g=kh\/g=lO\/g=nj):=λg' o' h=>by
     rw [hf] at h
     refine xp h λLc Ld=>?_
     try clear h
     obtain rfl:=Lc
     obtain rfl:=Ld
     exact ⟨ho,hg⟩
    wtm_at "W"
    refine (XE O F9 za rO Ni (by wtm_at "o")).pe λv Dm h1 Dp Dq=>?_
    rw [hf] at h1
    subst h1
    wtm_at "W"
    refine (Gj O Dp za (by wtm_at "o")).pe λv am6 h1 Nj Nk=>?_
    rw [hf] at h1
    subst h1
    wtm_at "W"
    refine (Gj O Nj za (by wtm_at "o")).pe λv Ds h1 GQ qF=>?_
    rw [hf] at h1
    subst h1
    dsimp only
    wtm_at "W"
    have r12:=GQ.reg
    refine jK (f:=mQ .Eq _ _ _) (MR (b:=true) (AH.kO (AH.jF _ _)) (AH.jF _ _) rfl (by rw [AH.ny];exact aeD) ?_) ?_
    ·generalize (sq g kh || (sq g lO && sends C hs o))=x
     generalize sq g kh=y
     cases x<;>cases y<;>rfl
    refine jA ⟨rfl,(GQ.ke ((((Ke.refl Ds).add _).add _))),(((((S08.trans S9).trans Dq).trans Nk).trans qF).trans (((Ke.refl Ds).add _).add _).ka)⟩
  wtm_at "W"
  rw [MQ]
  wtm_at "W"
  rw [decide_eq_true (rfl:C.num o=C.num o)]
  wtm_at "W"
  rcases hg with rfl|rfl|rfl
  ·wtm_at "W"
   exact main _ (Ke.refl _)
  ·wtm_at "W"
   refine (amc (by wtm_at "o")).mW λlX K7 h2=>?_
   refine jK (ul h2 (by decide +kernel)) ?_
   wtm_at "W"
   refine nV (qV h2 (amX o)) ?_
   have i3:jD tab (.tup [me,.ref 2 sl]) (.int 1) lX=some (.ref 2 sl):=rfl
   wtm_at "W"
   refine jK (y9 (K7.get _ _ _ am4) _) ?_
   rw [yZ]
   wtm_at "W"
   exact main _ K7
  ·wtm_at "W"
   exact main _ (Ke.refl _)
end
section
theorem WF.dr(D:Dr η iY)(w:lz η c)(F:WF C η):WF C iY where
 reg:=D.reg.trans F.reg
 mod n hn:=by obtain ⟨fs,a,b⟩:=F.mod n hn;exact ⟨fs,by rw [D.get _ _ (HQ)];exact a,b.ke λi o e=>by rw [D.get _ _ (HR)];exact e⟩
 lP n hn:=by
  have h:=F.lP n hn
  unfold ug at h ⊢
  have hm:iY.get 1 (C.ku n)=η.get 1 (C.ku n):=D.get _ _ (HQ)
  have he:∀v s g o,kZ C η v s g o->kZ C iY v s g o:=by
   rintro v s g o ⟨r,i,c,b,e,hg,hc,hb⟩
   refine Qe r i c b e ?_ hc hb
   by_cases YN:r=0/\i=1
   ·refine jB (YN) λo7 v7=>?_
    obtain rfl:=o7
    obtain rfl:=v7
    refine qY (w.at_) λx y z h J=>?_
    rw [h] at hg
    cases hg
   ·rw [D.get _ _ YN];exact hg
  split at h
  ·rw [hm];exact h
  ·rcases h with ⟨l,u,v,h1,h2,h3⟩|⟨h1,h2⟩
   ·exact .inl ⟨l,u,v,by rw [hm];exact h1,h2,he _ _ _ _ h3⟩
   ·exact .inr ⟨h1,by rw [hm];exact h2⟩
 fix i o e:=by rw [D.get _ _ (HQ)];exact F.fix i o e
theorem BW.dr(G:s6 B)(D:Dr η iY)(b:BW B η):BW B iY:=λi o e=>by
 rw [D.get]
 ·exact b i o e
 ·intro L7
  refine jB (L7) λJ qq8=>?_
  obtain rfl:=qq8
  rw [G.well] at e
  exact xn e
theorem lz.ka(S:jQ η iY)(w:lz η c):lz iY c:=by
 refine qY (w.at_) λg b n h r=>?_
 exact ⟨g,b,n,S.get _ _ _ (dc rfl) h,r⟩
theorem lz.le(w:lz η c)(h:c<=c'):lz η c':=by
 refine Qd (w.at_) λg b n h1 h2 h3 h4 h5=>?_
 exact ⟨g,b,n,h1,h2,h3,h4,by exact aaJ h h5⟩
def s9(B:Bk)(x:Str):Str:=(((ja xM x).getD []).filter λy=>(B.above y).isSome).headD kg
structure xT(C:Cfg)(B:Bk)(md ac:Nat):Prop where
 O:lD C
 G:s6 B
 H:CB C B
 A:YD C md
 act:∃l u,C.fix ac=some (.sd l u)/\∀x∈lZ,∃v,ja l x=some v/\Val C v (s9 B x)
 hd:∀x∈lZ,s9 B x∈C.ns/\2<=(C.line (s9 B x)).length/\((ja xM x).getD []).filter (λy=>(B.above y).isSome)≠[]
structure Run(C:Cfg)(B:Bk)(c:Nat)(η:AH):Prop where
 F:WF C η
 b:BW B η
 w:lz η c
theorem Run.ke(K:Ke η iY)(R:Run C B c η):Run C B c iY:=⟨R.F.ke K,R.b.ke K,R.w.ka K.ka⟩
def A1(C:Cfg)(B:Bk)(η:AH)(o:AO)(d:List Str):Prop:=(d=[]/\o=.jm)\/∃t u,o=.sd t u/\t.length<=d.length/\∀x∈d,∃j,ja t x=some (.ref 2 j)/\η.get 2 j=some (.list (jw (C.line (s9 B x))))
section
variable{md ac:Nat}
theorem anb(G:s6 B)(b:BW B η)(x:Str):mQ .In (.str x) (.ref 0 B.ab) η=some (B.above x).isSome:=by
 refine nY (G.above) λd u h h1=>?_
 show se (.str x) (.ref 0 B.ab) η=_
 show (η.get 0 B.ab).bind _=_
 rw [b _ _ h]
 show some (ja d x).isSome=_
 rw [h1 x]
 cases B.above x<;>rfl
theorem w_head(R:xT C B md ac)(b:BW B η)(hr:η.reg=2)(hk:20<=k){x:Str}(hx:x∈lZ){Q:PV->AH->Prop}{YQ Dk p16 GD:Option PV}(q:∀iY,Ke η iY->Q (.str (s9 B x)) iY):
  W k (.item (.uN (.v 17) (.one 17) (.item (.call (.st (.ref 1093)) .nil) (.v 9)) (.cons (.cmp .In (.v 17) (.item (.v 3) (.k (.str pH)))) .nil) [3] [16,17]) (.k (.int (0)))) [p0,p1,p2,some (.ref 0 B.bk),p4,p5,p6,p7,p8,some (.str x),qS,qT,rG,ue,YQ,Dk,p16,GD] η Q:=by
 wtm_at "s"
 refine rH ?_
 wtm_at "W"
 refine (amh (by wtm_at "o")).mono λv ji ⟨K1,j,d,h1,h2,T⟩=>?_
 subst h1
 rw [hr] at h2 T ⊢
 obtain ⟨i,l,t1,t2,t3⟩:∃i l,ja xM x=some l/\ja d x=some (.ref 2 i)/\ji.get 2 i=some (.list (jw l)):=by
  rcases T x with ⟨_,h⟩|⟨i,l,a,b,c⟩
  ·exfalso
   unfold lZ at hx
   simp only [aB,aU,or_false] at hx
   rcases hx with rfl|rfl|rfl|rfl|rfl|rfl|rfl|rfl|rfl|rfl|rfl<;>revert h<;>decide +kernel
  ·exact yf i l a b c
 have i1:jD tab (.ref 2 j) (.str x) ji=some (.ref 2 i):=lF h2 t2
 wtm_at "W"
 refine ⟨_,sU t3,rfl,?_⟩
 rw [sV t3,mH]
 have r1:ji.reg=2:=K1.reg.trans hr
 have GU:l.length<=3:=by
  unfold lZ at hx
  simp only [aB,aU,or_false] at hx
  have:∀y∈lZ,((ja xM y).getD []).length<=3:=by decide +kernel
  have:=this x (by unfold lZ;simpa using hx)
  rw [t1] at this
  exact this
 have mh:=(R.hd x hx).2.2
 rw [t1] at mh
 have hhd:s9 B x=(l.filter λy=>(B.above y).isSome).headD kg:=by unfold s9;rw [t1];rfl
 refine uh .str l (aaK GU) (λu:Option PV=>[p0,p1,p2,some (.ref 0 B.bk),p4,p5,p6,p7,p8,some (.str x),qS,qT,rG,ue,YQ,Dk,none,u]) (λd J iY=>Ke ji iY/\iY.get 2 ji.iZ=some (.list (jw (d.filter λy=>(B.above y).isSome)))) _ rfl (λd J iY h=>h.1.get _ _ _ t3) ⟨(Ke.refl _).add _,by have:=AH.jF ji (.list []);rw [r1] at this;exact this⟩ ?_ ?_
 ·intro dn y t jk iY hd I GG qG
  refine jB I λK2 h3=>?_
  refine ⟨_,rfl,?_⟩
  have b2:=(b.ke K1).ke K2
  have i2:=XJ R.G b2
  have dl:dn.length<l.length:=by rw [hd];simp
  wtm_at "W"
  refine jK (anb R.G b2 y) ?_
  induction ha:(B.above y).isSome using Bool.casesOn with
 |false=>
   refine ⟨false,rfl,λh=>(nomatch h),λJ=>⟨λh=>(nomatch h),λJ=>qG _ _ ⟨K2,?_⟩⟩⟩
   rw [h3,b8]
   simp [ha]
 |true=>
   refine ⟨true,rfl,λJ=>?_,λh=>nomatch h⟩
   wtm_at "s"
   refine ⟨λJ=>?_,λh=>nomatch h⟩
   wtm_at "W"
   rw [r1]
   refine ⟨_,?_,qG _ _ ⟨K2.set r1.symm (ak _) _,AH.kX h3⟩⟩
   refine (rI h3).trans ?_
   have:=bV (λy=>(B.above y).isSome) dn
   rw [lM (by rw [mH];exact aaL GU dl this),cond_true,b8,s7]
   simp [ha,jw]
 ·intro y jh I
  refine jB I λK2 h3=>?_
  have i3:jD tab (.ref 2 ji.iZ) (.int 0) jh=some (.str (s9 B x)):=by
   refine item_str (j:=0) h3 (dc rfl) ?_
   rw [hhd]
   induction hl:l.filter (λy=>(B.above y).isSome) using List.casesOn with
  |nil=>exact absurd hl mh
  |cons a r=>rfl
  rw [r1]
  wtm_at "W"
  exact q _ (K1.trans K2)
end
end
section
def Kp(η iY:AH):Prop:=iY.reg=η.reg/\∀i o,η.get 2 i=some o->iY.get 2 i=some o
theorem Kp.ke(K:Ke η iY):Kp η iY:=⟨K.reg,λi o e=>K.get _ _ _ e⟩
theorem Kp.ka(K:jQ η iY):Kp η iY:=⟨K.reg,λi o e=>K.get _ _ _ (dc rfl) e⟩
theorem Kp.dr(K:Dr η iY):Kp η iY:=⟨K.reg,λi o e=>by rw [K.get _ _ (HR)];exact e⟩
theorem Kp.trans{a b c:AH}(h:Kp a b)(k:Kp b c):Kp a c:=⟨k.1.trans h.1,λi o e=>k.2 i o (h.2 i o e)⟩
theorem A1.mono{d:List Str}(h:∀i l,η.get 2 i=some (.list l)->iY.get 2 i=some (.list l))(L:A1 C B η o d):A1 C B iY o d:=by
 rcases L with h1|⟨t,u,h1,h2,h3⟩
 ·exact .inl h1
 ·refine .inr ⟨t,u,h1,h2,λx hx=>?_⟩
  refine jL (h3 x hx) λj a b=>?_
  exact ⟨j,a,h _ _ b⟩
section
variable{md ac:Nat}
theorem Run.dr(R:xT C B md ac)(D:Dr η iY)(r:Run C B c η)(w:lz iY c'):Run C B c' iY:=⟨r.F.dr D r.w,r.b.dr R.G D,w⟩
theorem YR(R:xT C B md ac)(r:Run C B c η)(hc:c<1000)(hk:20<=k){m:Nat}{M:List Str}(he:look e 13=some (.ref 2 m))(he1:look e 1=some (.ref 0 1))(hM:η.get 2 m=some (.list (jw M)))(mh:M≠[])(hl:M.length<=60000){Q:PV->AH->Prop}(q:∀x iY,x∈M->Run C B (c+1) iY->Kp η iY->Q (.str x) iY):
  W k (.item (.v 13) (.call (.st (.ref 1114)) (.cons (.v 1) (.cons (.call (.st (.builtin "len")) (.cons (.v 13) .nil)) .nil)))) e η Q:=by
 have JR:0<M.length:=List.length_pos_iff.mpr mh
 wtm_at "s"
 refine pQ he ?_
 wtm_at "s";wtm_at "s"
 refine pQ he1 ?_
 wtm_at "s";wtm_at "s";wtm_at "s"
 refine pQ he ?_
 wtm_at "s"
 refine jb.mX (by wtm_at "o") (by intro _ h;cases h) (Gz hM (by rw [mH];exact DJ hl)) ?_
 rw [mH]
 wtm_at "s"
 refine (rQ r.w (O8 hc) (show (0:Int)<(M.length:Int) by exact Br JR) (OS hl) (by wtm_at "o")).mono λv iY ⟨⟨d,h1,h2,h3⟩,w',D⟩=>?_
 subst h1
 obtain ⟨n,rfl⟩:∃n:Nat,d=n:=⟨d.toNat,by exact wC h2⟩
 have hn:n<M.length:=HV h3
 have Nm:iY.get 2 m=some (.list (jw M)):=by rw [D.get _ _ (HR)];exact hM
 refine jK (item_str Nm (OU hl h3) (aR hn)) ?_
 exact q _ iY (dj hn) (r.dr R D w') (.dr D)
def zb:jn:=kj 4 pP
theorem anc(R:xT C B md ac)(r:Run C B c η)(hk:325<=k){Q:Fl->Sl->AH->Prop}
  (q:∀iY L a9 mG,Run C B c iY->iY.reg=2->(∃o,iY.get 2 L=some o/\A1 C B iY o lZ)->WS k (kj 6 pP) 0 [some sc,some (.ref 0 1),some (.bool tiny),some (.ref 0 B.bk),some (.ref 1 C.jI),some (.ref 1 md),some (.ref 1 ac),some (.ref 2 L),some (.str B.first),a9,mG,none,none,none,none,none,none,none] iY Q) :
  WS k zb 0 [some sc,some (.ref 0 1),some (.bool tiny),some (.ref 0 B.bk),some (.ref 1 C.jI),some (.ref 1 md),some (.ref 1 ac),none,none,none,none,none,none,none,none,none,none,none] η Q:=by
 have mj:=r.F.reg
 rw [show zb=cut 2 zb (kj 6 pP) from rfl]
 generalize qy:kj 6 pP=rest at q ⊢
 unfold zb pP
 dsimp only [cut,kj]
 have K1:Ke η (η.add .jm):=(Ke.refl η).add _
 have f1:=amo R.G (r.b.ke K1)
 repeat' wtm_at "u"
 rw [mj]
 wtm_at "W"
 refine (C0 (by wtm_at "o")).mW λjh K2 h2=>?_
 have K12:=K1.trans K2
 have d2:=K2.get _ _ _ (AH.jF η .jm)
 have n2:=K2.iZ
 rw [AH.ny] at n2
 simp only [AH.nH,AH.ny,mj] at h2 d2 ⊢
 refine Ax .str lZ (dc rfl) (λx:Jk=>[some sc,some (.ref 0 1),some (.bool tiny),some (.ref 0 B.bk),some (.ref 1 C.jI),some (.ref 1 md),some (.ref 1 ac),some (.ref 2 η.iZ),some (.str B.first),x 0,x 1,none,none,none,none,none,none,none]) (λd J iY=>Ke η iY/\iY.get 2 (η.iZ+1)=some (.list (jw lZ))/\∃o,iY.get 2 η.iZ=some o/\A1 C B iY o d) (λi=>[_,_].getD i none) rfl (λd x iY I=>I.2.1) ⟨K12,h2,_,d2,.inl ⟨rfl,rfl⟩⟩ ?_ ?_
 ·intro d x t jk iY hd I GG qG
  refine pF I λK3 h3 I=>jL I λo h4 LD=>?_
  refine ⟨_,rfl,?_⟩
  simp only [qB,qC]
  have hx:x∈lZ:=by rw [hd];simp
  have nB:d.length<11:=by have:lZ.length=11:=rfl;rw [hd] at this;simp at this;exact Pa this
  have r3:=r.ke K3
  have ane:=r3.F.reg
  wtm_at "s";wtm_at "s"
  refine w_head R r3.b ane (HL hk) hx λjH K4=>?_
  refine pF (R.hd x hx) λhh1 hh2 J=>?_
  have r4:=r3.ke K4
  wtm_at "W"
  refine (amG R.O R.G R.H r4.b hh1 hh2 (by wtm_at "o")).WR λj jY K5 h5=>?_
  have anf:=r4.F.reg
  rw [anf] at h5 ⊢
  have GV:=K5.get _ _ _ (K4.get _ _ _ h4)
  have LD5:=LD.mono (λi l h=>K5.get _ _ _ (K4.get _ _ _ h))
  wtm_at "W"
  have ang:∃o',mV (.ref 2 η.iZ) (.str x) (.ref 2 j) jY=some (jY.set 2 η.iZ o')/\A1 C B (jY.set 2 η.iZ o') o' (d++[x])/\(jY.set 2 η.iZ o').get 2 (η.iZ+1)=some (.list (jw lZ)):=by
   have keep:∀o' i l,jY.get 2 i=some (.list l)->(jY.set 2 η.iZ o').get 2 i=some (.list l):=λo' i l h=>by
    rw [AH.jP]
    ·exact h
    ·intro yU
     refine jB (yU) λJ CN=>?_
     obtain rfl:=CN
     rw [GV] at h
     rcases LD with ⟨_,rfl⟩|⟨t,u,rfl,_⟩<;>cases h
   rcases LD5 with ⟨rfl,rfl⟩|⟨t,u,rfl,ht,h6⟩
   ·refine ⟨_,Am GV,.inr ⟨_,_,rfl,by simp,λy hy=>?_⟩,keep _ _ _ (K5.get _ _ _ (K4.get _ _ _ h3))⟩
    have:y=x:=by simpa using hy
    subst this
    exact ⟨j,CY,keep _ _ _ h5⟩
   ·refine ⟨_,yP GV (Pb nB ht),.inr ⟨_,_,rfl,?_,λy hy=>?_⟩,keep _ _ _ (K5.get _ _ _ (K4.get _ _ _ h3))⟩
    ·rw [Ey]
     split<;>simp<;>(first|exact zo ht|assumption)
    ·rw [vC]
     by_cases e:y=x
     ·subst e
      exact ⟨j,if_pos rfl,keep _ _ _ h5⟩
     ·have hy':y∈d:=by
       rcases aH.mp hy with h|h
       ·exact h
       ·exact absurd (aJ.mp h) e
      refine jL (h6 y hy') λj' a b=>?_
      exact ⟨j',by rw [if_neg e];exact a,keep _ _ _ b⟩
  refine vo (ang) λo' p1 p2 p3=>?_
  refine jK p1 ?_
  wtm_at "W"
  exact qG (λi=>([some (.str x),some (.str (s9 B x))]:Sl).getD i none) _ ⟨((K3.trans K4).trans K5).set mj.symm (ak _) _,p3,o',AH.kX GV,p2⟩
 ·intro x iY I
  refine pF I λK3 h3 h4=>?_
  have r3:=r.ke K3
  exact q iY _ _ _ r3 r3.F.reg h4
end
end
section
structure Lay(C:Cfg)(B:Bk)(L nr:Nat)(near:List Str)(η:AH):Prop where
 lines:∃t u,η.get 2 L=some (.sd t u)/\∀x∈lZ,∃j,ja t x=some (.ref 2 j)/\η.get 2 j=some (.list (jw (C.line (s9 B x))))
 near:η.get 2 nr=some (.list (jw near))
theorem Lay.kp{L:Nat}{near:List Str}(K:Kp η iY)(l:Lay C B L nr near η):Lay C B L nr near iY:=by
 refine nY (l.lines) λt u h1 h2=>?_
 exact ⟨⟨t,u,K.2 _ _ h1,λx hx=>by obtain ⟨j,a,b⟩:=h2 x hx;exact ⟨j,a,K.2 _ _ b⟩⟩,K.2 _ _ l.near⟩
theorem anh:∀x l,ja AK x=some l->(∀y∈l,y∈lZ)/\l≠[]/\l.length<=4:=by
 intro x l h
 have:∀p∈AK,(∀y∈p.2,y∈lZ)/\p.2≠[]/\p.2.length<=4:=by decide +kernel
 have hm:(x,l)∈AK:=by
  revert h
  generalize AK=t
  induction t with
 |nil=>intro h;cases h
 |cons p r ih=>
   obtain ⟨y,v⟩:=p
   intro h
   unfold ja at h
   induction hq:sq y x using Bool.casesOn with
  |true=>
    rw [hq] at h
    refine xs h λlH=>?_
    try clear h
    obtain rfl:=lH
    rw [jS.mp hq]
    exact bL
  |false=>
    rw [hq] at h
    exact bu _ (ih h)
 exact this _ hm
def Nn:jn:=match kj 7 pP with
|.cons (.for _ _ _ b) _=>b
|_=>.nil
section
variable{md ac:Nat}
theorem ani(R:xT C B md ac)(r:Run C B c η)(hc:c<900)(hk:325<=k){L:Nat}{near:List Str}(l:Lay C B L nr near η)(Np:∀x∈near,x∈lZ)(A2:near.length<=11){n:Nat}{sc:Option PV}{Q:Fl->Sl->AH->Prop}
  (q:∀iY nU oJ o9,Run C B (c+2) iY->Kp η iY->Lay C B L nr near iY->Q .next [sc,some (.ref 0 1),some (.bool tiny),some (.ref 0 B.bk),some (.ref 1 C.jI),some (.ref 1 md),some (.ref 1 ac),some (.ref 2 L),some (.str B.first),a9,mG,some (.ref 2 nr),some (.int n),nU,oJ,o9,none,none] iY) :
  WS k Nn 0 [sc,some (.ref 0 1),some (.bool tiny),some (.ref 0 B.bk),some (.ref 1 C.jI),some (.ref 1 md),some (.ref 1 ac),some (.ref 2 L),some (.str B.first),a9,mG,some (.ref 2 nr),some (.int n),nU,oJ,o9,none,none] η Q:=by
 have mj:=r.F.reg
 unfold Nn pP
 dsimp only [kj]
 have YS:∀e:AH,qK .Mod (.int n) (.int 2) e=some (.int (cI n 2),e):=λe=>rfl
 have YT:∀(R':PV->AH->Prop) (e:Sl),look e 11=some (.ref 2 nr)->look e 12=some (.int n)->(∀iY m M,Ke η iY->iY.get 2 m=some (.list (jw M))->(∀x∈M,x∈lZ)->M≠[]->M.length<=11->R' (.ref 2 m) iY)->W k (.sF (.vX true (.cmp .NotEq (.v 11) (.list .nil)) (.cmp .Eq (.bin .Mod (.v 12) (.k (.int (2)))) (.k (.int (0))))) (.v 11) (.call (.st (.ref 1086)) .nil)) e η R':=by
  intro R' e YV z5 q
  have K1:Ke η (η.add (.list [])):=(Ke.refl η).add _
  have who:∀ji,Ke η ji->jb k (.st (.ref 1086)) [] ji R':=λji K=>by
   refine (C0 (by wtm_at "o")).mW λjh K2 h2=>?_
   have:ji.reg=2:=K.reg.trans mj
   rw [this] at h2 ⊢
   exact q _ _ lZ (K.trans K2) h2 (λx h=>h) (dc rfl) (dc rfl)
  wtm_at "s";wtm_at "s";wtm_at "s"
  refine pQ YV ?_
  wtm_at "W"
  refine jK (f:=mQ .NotEq _ _ _) (v:=!decide (jw near=[])) ?_ ?_
  ·have:=eq_nil (AH.kO (o:=.list []) l.near) (AH.jF η (.list [])) (by rw [mj];have:=AH.pR l.near mj.symm;exact Ow this)
   have this:uB (.ref 2 nr) (.ref η.reg η.iZ) (η.add (.list []))=_:=this
   show (uB (.ref 2 nr) (.ref η.reg η.iZ) (η.add (.list []))).map _=_
   rw [this]
   rfl
  by_cases Nq:near=[]
  ·rw [Nq]
   wtm_at "W"
   exact who _ K1
  ·have:decide (jw near=[])=false:=decide_eq_false (by unfold jw;simpa using Nq)
   rw [this]
   wtm_at "s";wtm_at "s";wtm_at "s"
   refine pQ z5 ?_
   wtm_at "W"
   refine lS (YS _) ?_
   wtm_at "W"
   refine ⟨decide (cI n 2=0),rfl,λJ=>pQ YV (q _ _ near K1 (K1.get _ _ _ l.near) Np Nq A2),λJ=>?_⟩
   wtm_at "W"
   exact who _ K1
 have YW:∀(ji:AH) (R':PV->AH->Prop) (e:Sl),ji.reg=2->look e 8=some (.str B.first)->look e 12=some (.int n)->(∀iY m M,Ke ji iY->iY.get 2 m=some (.list (jw M))->(∀x∈M,x∈lZ)->M≠[]->M.length<=11->R' (.ref 2 m) iY)->W k (.sF (.cmp .Eq (.bin .Mod (.v 12) (.k (.int (2)))) (.k (.int (0)))) (.lP (.call (.st (.ref 1100)) .nil) nP (.cons (.v 8) (.cons (.call (.st (.ref 1086)) .nil) .nil))) (.call (.st (.ref 1086)) .nil)) e ji R':=by
  intro ji R' e h1 e8 z5 q
  wtm_at "s";wtm_at "s";wtm_at "s"
  refine pQ z5 ?_
  wtm_at "W"
  refine lS (YS _) ?_
  wtm_at "W"
  refine ⟨decide (cI n 2=0),rfl,λJ=>?_,λJ=>?_⟩
  ·wtm_at "W"
   refine (ami (by wtm_at "o")).mono λv jh ⟨K2,j,d,e2,h2,T⟩=>?_
   subst e2
   rw [h1] at h2 T ⊢
   refine jK (ul h2 (by decide +kernel)) ?_
   wtm_at "s"
   refine pQ e8 ?_
   wtm_at "W"
   refine (C0 (by wtm_at "o")).mW λjl K3 h3=>?_
   have r2:jh.reg=2:=K2.reg.trans h1
   rw [r2] at h3 ⊢
   wtm_at "W"
   rcases T B.first with ⟨t1,_⟩|⟨i,l,t1,t2,t3⟩
   ·exact nV (qV (K3.get _ _ _ h2) (CX t1)) (q _ _ lZ (K2.trans K3) h3 (λx h=>h) (dc rfl) (dc rfl))
   ·refine pF (anh _ _ t1) λs1 s2 s3=>?_
    exact nV (qV (K3.get _ _ _ h2) (CW t2)) (q _ _ l (K2.trans K3) (K3.get _ _ _ t3) s1 s2 (aal s3))
  ·wtm_at "W"
   refine (C0 (by wtm_at "o")).mW λjh K2 h2=>?_
   rw [h1] at h2 ⊢
   exact q _ _ lZ K2 h2 (λx h=>h) (dc rfl) (dc rfl)
 wtm_at "s";wtm_at "s"
 refine YT _ _ rfl rfl λji m1 M1 K1 g1 s1 n1 l1=>?_
 have r1:=r.ke K1
 have anj:=l.kp (.ke K1)
 clear YT
 iterate 3 wtm_at "s"
 refine YR R r1 (aam hc) (HL hk) rfl rfl g1 n1 (Ox l1) λx jh hx r2 P2=>?_
 have ank:=anj.kp P2
 have zc:=r2.F.reg
 iterate 3 wtm_at "s"
 refine YW _ _ _ zc rfl rfl λjl m2 M2 K3 g3 s3 n3 l3=>?_
 have r3:=r2.ke K3
 have anl:=ank.kp (.ke K3)
 clear YW
 iterate 3 wtm_at "s"
 refine YR R r3 (aan hc) (HL hk) rfl rfl g3 n3 (Ox l3) λy jH hy r4 P4=>?_
 have GW:=anl.kp P4
 refine nY (GW.lines) λt u t1 t2=>?_
 have Nr:=s1 x hx
 have Nt:=s3 y hy
 refine jL (t2 x Nr) λjx tx1 tx2=>?_
 refine jL (t2 y Nt) λjy ty1 ty2=>?_
 refine nY (R.act) λal au ha YX=>?_
 refine jL (YX x Nr) λvx vx1 vx2=>?_
 refine jL (YX y Nt) λvy vy1 vy2=>?_
 have fa:=r4.F.fix _ _ ha
 have ix:jD tab (.ref 1 ac) (.str x) jH=some vx:=lF fa vx1
 have iy:jD tab (.ref 1 ac) (.str y) jH=some vy:=lF fa vy1
 have jx':jD tab (.ref 2 L) (.str x) jH=some (.ref 2 jx):=lF t1 tx1
 have jy':jD tab (.ref 2 L) (.str y) jH=some (.ref 2 jy):=lF t1 ty1
 wtm_at "W"
 refine (am0 R.O R.G R.H r4.F r4.b R.A vy2 vx2 (R.hd y Nt).1 (R.hd x Nr).1 ty2 tx2 (by wtm_at "o")).mW λjY F5 S5=>?_
 wtm_at "W"
 have r5:Run C B (c+1+1) jY:=⟨F5,r4.b.ka S5,r4.w.ka S5⟩
 exact q jY _ _ _ r5 ((((Kp.ke K1).trans P2).trans (.ke K3)).trans P4 |>.trans (.ka S5)) (GW.kp (.ka S5))
end
end
section
section
variable{md ac:Nat}
theorem YY(R:xT C B md ac)(hk:325<=k){L:Nat}{near:List Str}(Np:∀x∈near,x∈lZ)(A2:near.length<=11)(hN:N<=10)(r:Run C B c η)(hc:c<=200)(l:Lay C B L nr near η){sc:Option PV}{Q:Fl->Sl->AH->Prop}
  (q:∀e iY,Q .next e iY) :
  ∃S,ro false (.mr 0 N) η=some S/\oO (λe η Q=>WS k Nn 0 e η Q) (.one 12) S (S.len η+1) 0 [sc,some (.ref 0 1),some (.bool tiny),some (.ref 0 B.bk),some (.ref 1 C.jI),some (.ref 1 md),some (.ref 1 ac),some (.ref 2 L),some (.str B.first),a9,mG,some (.ref 2 nr),oR,nU,oJ,o9,none,none] η Q:=by
 refine F0 (OD hN) (λx:Jk=>[sc,some (.ref 0 1),some (.bool tiny),some (.ref 0 B.bk),some (.ref 1 C.jI),some (.ref 1 md),some (.ref 1 ac),some (.ref 2 L),some (.str B.first),a9,mG,some (.ref 2 nr),x 0,x 1,x 2,x 3,none,none]) (λj J iY=>Run C B (c+2*j) iY/\Lay C B L nr near iY) (λi=>[oR,nU,oJ,o9].getD i none) rfl ⟨r,l⟩ ?_ λJ J J=>q _ _
 intro j t x jh hlen I G qG
 refine jB I λr2 l2=>?_
 refine ⟨_,rfl,?_⟩
 simp only [qB,qC]
 refine ani R r2 (abP hN hc hlen) hk l2 Np A2 λjl nU oJ o9 r3 J l3=>?_
 exact qG (λi=>([some (.int j),nU,oJ,o9]:Sl).getD i none) _ ⟨r3,l3⟩
theorem anm(R:xT C B md ac)(r:Run C B c η)(hc:c<=100)(hk:325<=k){P:PV->AH->Prop}(q:∀iY,P (.bool true) iY):
  WS k zb 0 [some sc,some (.ref 0 1),some (.bool tiny),some (.ref 0 B.bk),some (.ref 1 C.jI),some (.ref 1 md),some (.ref 1 ac),none,none,none,none,none,none,none,none,none,none,none] η (nc P):=by
 refine anc R r hk λji L a9 mG r1 Dt ⟨o,h1,LD⟩=>?_
 obtain ⟨t,u,rfl,_,LD⟩:=LD.resolve_left (λh=>absurd h.1 (dc rfl))
 rw [show kj 6 pP=cut 2 (kj 6 pP) (kj 8 pP) from rfl]
 generalize qy:kj 8 pP=rest
 unfold pP
 dsimp only [cut,kj]
 wtm_at "s";wtm_at "s"
 refine rH ?_
 wtm_at "W"
 refine (C0 (by wtm_at "o")).mW λjh K2 h3=>?_
 rw [Dt] at h3 ⊢
 refine ⟨_,sU h3,rfl,?_⟩
 rw [sV h3,mH]
 have zc:jh.reg=2:=K2.reg.trans Dt
 rw [zc]
 let oW:Str->Bool:=λx=>decide (B.first∈C.line (s9 B x))
 refine uh .str lZ (dc rfl) (λy:Option PV=>[some sc,some (.ref 0 1),some (.bool tiny),some (.ref 0 B.bk),some (.ref 1 C.jI),some (.ref 1 md),some (.ref 1 ac),some (.ref 2 L),some (.str B.first),a9,mG,none,none,none,none,none,none,y]) (λd J iY=>Ke jh iY/\iY.get 2 jh.iZ=some (.list (jw (d.filter oW)))) _ rfl (λd J iY h=>h.1.get _ _ _ h3) ⟨(Ke.refl _).add _,by have:=AH.jF jh (.list []);rw [zc] at this;exact this⟩ ?_ ?_
 ·intro d x t' y iY hd I GG qG
  refine jB I λK3 h4=>?_
  refine ⟨_,rfl,?_⟩
  simp only [qB,qC]
  have hx:x∈lZ:=by rw [hd];simp
  obtain ⟨j,a,b⟩:=LD x hx
  have A3:=K2.trans K3
  have i1:jD tab (.ref 2 L) (.str x) iY=some (.ref 2 j):=lF (A3.get _ _ _ h1) a
  have nB:d.length<11:=by have:lZ.length=11:=rfl;rw [hd] at this;simp at this;exact Pa this
  have pS:=bV oW d
  wtm_at "W"
  refine jK (y9 (A3.get _ _ _ b) B.first) ?_
  induction lE:decide (B.first∈C.line (s9 B x)) using Bool.casesOn with
 |false=>
   refine ⟨false,rfl,λh=>(nomatch h),λJ=>⟨λh=>(nomatch h),λJ=>qG _ _ ⟨K3,?_⟩⟩⟩
   have:oW x=false:=lE
   rw [h4,b8]
   simp [this]
 |true=>
   refine ⟨true,rfl,λJ=>?_,λh=>nomatch h⟩
   wtm_at "s"
   refine ⟨λJ=>?_,λh=>nomatch h⟩
   wtm_at "W"
   have:oW x=true:=lE
   refine ⟨_,?_,qG _ _ ⟨K3.set zc.symm (ak _) _,AH.kX h4⟩⟩
   refine (rI h4).trans ?_
   rw [lM (by rw [mH];exact Pb nB pS),cond_true,b8,s7]
   simp [this,jw]
 ·intro y jl I
  refine jB I λK3 h4=>?_
  have A3:=K2.trans K3
  have r3:=r1.ke A3
  have lay:Lay C B L jh.iZ (lZ.filter oW) jl:=⟨⟨t,u,A3.get _ _ _ h1,λx hx=>by obtain ⟨j,a,b⟩:=LD x hx;exact ⟨j,a,A3.get _ _ _ b⟩⟩,h4⟩
  have mh:∀x∈lZ.filter oW,x∈lZ:=λx hx=>(cC.mp hx).1
  have A2:(lZ.filter oW).length<=11:=bV _ _
  have fin:∀e iY,WS k rest 0 e iY (nc P):=λe iY=>by
   rw [<-qy]
   unfold pP
   dsimp only [kj]
   wtm_at "W"
   exact jA (q iY)
  induction tiny using Bool.casesOn with
 |true=>
   wtm_at "W"
   refine jb.mX (by wtm_at "o") (by intro _ h;cases h) (Df (n:=2) (dc rfl)) ?_
   exact YY R hk mh A2 (dc rfl) r3 (abQ hc) lay λe iY=>fin e iY
 |false=>
   wtm_at "W"
   refine (rQ r3.w (abR hc) (show (0:Int)<5 by decide) (dc rfl) (by wtm_at "o")).mono λv jH ⟨⟨d,e1,e2,e3⟩,w4,D⟩=>?_
   subst e1
   obtain ⟨n,rfl⟩:∃n:Nat,d=n:=⟨d.toNat,by exact wC e2⟩
   have r4:=r3.dr R D w4
   have GW:=lay.kp (.dr D)
   refine lS (v:=.int (6+n)) (u:=jH) rfl ?_
   have:(6+(n:Int))=((6+n:Nat):Int):=abS
   rw [this]
   wtm_at "W"
   refine jb.mX (by wtm_at "o") (by intro _ h;cases h) (Df (n:=6+n) (abT e3)) ?_
   exact YY R hk mh A2 (abU e3) r4 (abV hc) GW λe iY=>fin e iY
end
end
section
theorem ano(ns:List Int)(t8:ns.length<=63)(hK:20<=K):jb K (.st (.ref 1107)) [.fl (ns.map .int)] ⟨[],[]⟩ λv iY=>v=.ref 0 1/\lz iY 0/\iY.reg=0/\iY.iZ=2:=by
 refine jb.le (k:=20) ?_ hK
 refine jb.at (as:=[.fl (ns.map .int)]) 0 ak2 (by wtm_at "o") rfl (by kernel_rfl) ?_;intro _ _
 unfold Wq
 wtm_at "W"
 refine lS (v:=.ref 0 0) (u:=(⟨[],[]⟩:AH).add (.list ((ns.take 30).map .int))) ?_ ?_
 ·show cond (decide ((0:Int)<=30) && decide ((30:Int)<65536)) (cond (kB (ns.map PV.int).length) (some (PV.ref 0 0,(⟨[],[]⟩:AH).add (.list ((ns.map PV.int).take 30)))) none) none=_
  rw [aC,lM (O5 t8),List.map_take]
  rfl
 have g0:((⟨[],[]⟩:AH).add (.list ((ns.take 30).map .int))).get 0 0=some (.list ((ns.take 30).map .int)):=rfl
 have r0:((⟨[],[]⟩:AH).add (.list ((ns.take 30).map .int))).reg=0:=rfl
 have n0:((⟨[],[]⟩:AH).add (.list ((ns.take 30).map .int))).iZ=1:=rfl
 revert g0 r0 n0
 generalize ((⟨[],[]⟩:AH).add (.list ((ns.take 30).map .int)))=ji
 intro g0 r0 n0
 refine Ax .int (ns.take 30) (by rw [List.length_take];exact abl) (λy:Int×Int×Option PV=>[some (.fl (ns.map .int)),some (.int y.1),some (.int y.2.1),y.2.2]) (λd y iY=>iY=ji/\0<=y.1/\0<=y.2.1) (0,29,none) rfl (λd y iY I=>I.1▸g0) ⟨rfl,by decide,by decide⟩ ?_ ?_
 ·intro d x t y iY hd I GG qG
  obtain ⟨g,b,u⟩:=y
  refine pF I λe1 hg hb=>?_
  subst e1
  refine ⟨_,rfl,?_⟩
  simp only [qB,qC]
  have mm:∀(x y:Int) (e:AH),0<y->qK .Mod (.int x) (.int y) e=some (.int (cI x y),e):=λx y e h1=>by
   exact CG (kP (decide_eq_true h1) rfl)
  have ab:∀e:AH,qk tab (.builtin "abs") [.int x] e=some (.int x.natAbs,e):=λe=>rfl
  wtm_at "W"
  refine lS (v:=.int (b*7727)) (u:=iY) rfl ?_
  wtm_at "W"
  refine lS (v:=.int (x*31)) (u:=iY) rfl ?_
  refine lS (v:=.int (b*7727+x*31)) (u:=iY) rfl ?_
  wtm_at "W"
  refine lS (v:=.int (b*7727+x*31+5)) (u:=iY) rfl ?_
  wtm_at "W"
  refine lS (mm _ _ _ (dc rfl)) ?_
  have zf:=eA (b*7727+x*31+5) (show (0:Int)<1000003 by decide)
  wtm_at "W"
  by_cases YZ:g=0
  ·rw [show decide (g=0)=true from decide_eq_true YZ]
   wtm_at "W"
   refine jb.mX (by wtm_at "o") (by intro _ h;cases h) (ab _) ?_
   wtm_at "W"
   refine lS (v:=.int (10 ^ 18)) (u:=iY) rfl ?_
   refine jK (f:=mQ .GtE _ _ _) (v:=decide ((10:Int) ^ 18<=(x.natAbs:Int))) rfl ?_
   refine ⟨_,rfl,λJ=>?_,λJ=>?_⟩
   ·wtm_at "W"
    refine jb.mX (by wtm_at "o") (by intro _ h;cases h) (ab _) ?_
    wtm_at "W"
    refine lS (v:=.int (10 ^ 120)) (u:=iY) rfl ?_
    refine lS (mm _ _ _ (dc rfl)) ?_
    wtm_at "W"
    exact qG (_,_,_) _ ⟨rfl,eA _ (dc rfl),zf⟩
   ·wtm_at "W"
    exact qG (g,_,_) _ ⟨rfl,hg,zf⟩
  ·rw [show decide (g=0)=false from decide_eq_false YZ]
   wtm_at "W"
   exact qG (g,_,_) _ ⟨rfl,hg,zf⟩
 ·intro y iY I
  obtain ⟨g,b,u⟩:=y
  refine pF I λe1 hg hb=>?_
  subst e1
  wtm_at "W"
  have h:=AH.jF iY (.list [.int g,.int b,.int 0])
  rw [r0,n0] at h ⊢
  exact jA ⟨rfl,⟨g,b,0,h,hg,hb,by decide,by decide⟩,r0,by rw [AH.ny,n0]⟩
structure Kb(ex:List Nat)(η iY:AH):Prop where
 reg:iY.reg=η.reg
 iZ:η.iZ<=iY.iZ
 get:∀i o,i∉ex->η.get 0 i=some o->iY.get 0 i=some o
section
variable{ex:List Nat}
theorem Kb.refl:Kb ex η η:=⟨rfl,ak _,λJ J J h=>h⟩
theorem Kb.ke(h:Kb ex η iY)(k:Ke iY jh):Kb ex η jh:=⟨k.reg.trans h.reg,ah h.iZ k.iZ,λi o hi e=>k.get _ _ _ (h.get i o hi e)⟩
theorem Kb.add(h:Kb ex η iY)(o:AO):Kb ex η (iY.add o):=h.ke ((Ke.refl _).add _)
theorem Kb.dr(h:Kb ex η iY)(D:Dr iY jh)(h1:1∈ex):Kb ex η jh:=⟨D.reg.trans h.reg,by rw [D.iZ];exact h.iZ,λi o hi e=>by
 rw [D.get _ _ (by rintro ⟨_,rfl⟩;exact hi h1)];exact h.get i o hi e⟩
theorem Kb.set(h:Kb ex η iY)(hi:i∈ex\/(η.reg=0/\η.iZ<=i))(o:AO):Kb ex η (iY.set 0 i o):=⟨by rw [AH.yO,h.reg],by rw [AH.Al];exact h.iZ,λj o' hj e=>by
 rw [AH.jP]
 ·exact h.get j o' hj e
 ·rintro ⟨_,rfl⟩
  rcases hi with hi|⟨h0,hi⟩
  ·exact hj hi
  ·have:=AH.pR e h0.symm
   exact O6 hi this⟩
theorem Kb.trans{Y0:List Nat}(h:Kb ex η iY)(k:Kb Y0 iY jh)(hs:∀i∈Y0,i∈ex):Kb ex η jh:=⟨k.reg.trans h.reg,ah h.iZ k.iZ,λi o hi e=>k.get i o (λq=>hi (hs i q)) (h.get i o hi e)⟩
end
def mq:List (Str×Option Str):=[(mL,none),(kE,some mL),(lJ,some kE),(jE,some lJ),(qt,some kE),(jW,some qt),(jX,some kE),(j0,none),(qo,none),(jG,some kE),(ju,some jG),(lB,some jG),(jN,none),(lg,none)]
def oq(hk:Bool)(al:Nat):List (Str×Option Str):=mq++(if hk then [(j6,some ju)] else [])++(if al<=1 then [(mw,some jE),(mR,some mw),(jT,some mR)] else [])++(if al=0 then [(lu,some jT)] else [])++(if al=2 then [(m7,some lJ)] else [])
def kY(l:List (Str×Option Str)):List (Str×PV):=l.map λp=>(p.1,wj p.2)
def l0(hk:Bool)(al:Nat):List Str:=(if hk then [j6] else [])++(if al<=1 then [jT] else [])++(if al=0 then [lu] else [])++(if al=2 then [m7] else [])++[jN,ju,jG,lg,lB,kE,j0,jW,jX]
theorem anp{r:Nat}{l l':List (Str×PV)}{u':Nat}(h:η.get r i=some (.sd l u))(h':η.get r' i'=some (.sd l' u'))(mh:¬ (r=r'/\i=i'))(hl:l.length+l'.length<=65536):tP tab (.dct r i) JD [.ref r' i'] η=some (.none,η.set r i (.sd (wM l l') (u+1))):=jC h (cnf (by decide +kernel) (kP (by decide +kernel) (jC (o:=wK (.ref r' i') η) (WW h') (kP (sP (lM hl) (FN mh)) rfl))))
theorem xU{r:Nat}{j:Int}{n:Nat}(h:η.get r i=some (.list l))(hj:j=n)(hn:n<65536)(hv:l[n]?=some v):jD tab (.ref r i) (.int j) η=some v:=by
 subst hj
 exact uX h (Bm) (HJ hn) (by rw [Int.toNat_natCast];exact hv)
structure Sg(η:AH)(c:Nat)(sl:List Str)(ab:List (Str×Option Str))(iY:AH):Prop where
 kb:Kb [1,5] η iY
 w:lz iY c
 s:iY.get 0 η.iZ=some (.list (jw sl))
 a:∃u,iY.get 0 5=some (.sd (kY ab) u)
section
variable{sl:List Str}{ab:List (Str×Option Str)}
theorem Sg.ke(I:Sg η c sl ab iY)(K:Ke iY jh):Sg η c sl ab jh:=by
 refine oK (I.a) λu h=>?_
 exact ⟨I.kb.ke K,I.w.ka K.ka,K.get _ _ _ I.s,u,K.get _ _ _ h⟩
theorem Sg.dr(hn:10<=η.iZ)(I:Sg η c sl ab iY)(D:Dr iY jh)(w:lz jh c'):Sg η c' sl ab jh:=by
 refine oK (I.a) λu h=>?_
 exact ⟨I.kb.dr D (by simp),w,by rw [D.get _ _ (abn hn)];exact I.s,u,by rw [D.get _ _ (dc rfl)];exact h⟩
theorem Sg.app(hr:η.reg=0)(hn:10<=η.iZ)(I:Sg η c sl ab iY)(hl:sl.length<=100)(x:Str)(e3:look e 3=some (.ref 0 η.iZ)){Q:Fl->Sl->AH->Prop}(q:∀jh,Sg η c (sl++[x]) ab jh->Q .next e jh):W1 k (.expr (.lP (.v 3) sC (.cons (.k (.str x)) .nil))) 0 e iY Q:=by
 wtm_at "s";wtm_at "s"
 refine pQ e3 ?_
 refine jK (qE I.s (by decide +kernel)) ?_
 wtm_at "W"
 refine qA (yS I.s (by rw [mH];exact Bq hl)) ⟨rfl,q _ ?_⟩
 refine oK (I.a) λu h=>?_
 refine qY (I.w.at_) λg b n h1 h2=>?_
 exact ⟨I.kb.set (.inr ⟨hr,ak _⟩) _,⟨g,b,n,by rw [AH.jP (abo hn)];exact h1,h2⟩,by rw [AH.kX I.s,s7];rfl,u,by rw [AH.jP (abp hn)];exact h⟩
theorem Sg.put(hn:10<=η.iZ)(I:Sg η c sl ab iY)(hl:ab.length<=100)(x y:Str){u0:List (Str×Option Str)}(hp:jz (kY ab) x (.str y)=kY u0)(e2:look e 2=some (.ref 0 5)){Q:Fl->Sl->AH->Prop}(q:∀jh,Sg η c sl u0 jh->Q .next e jh):W1 k (.asg (.nG (.v 2) (.k (.str x))) (.k (.str y))) 0 e iY Q:=by
 refine oK (I.a) λu h=>?_
 wtm_at "s";wtm_at "s";wtm_at "s"
 refine pQ e2 ?_
 wtm_at "W"
 refine jK (yP h (by unfold kY;rw [aC];exact Bq hl)) (q _ ?_)
 refine qY (I.w.at_) λg b n h1 h2=>?_
 exact ⟨I.kb.set (.inl (by simp)) _,⟨g,b,n,by rw [AH.jP (dc rfl)];exact h1,h2⟩,by rw [AH.jP (O7 hn)];exact I.s,_,by rw [AH.kX h,hp]⟩
theorem Sg.upd(hr:η.reg=0)(hn:10<=η.iZ)(I:Sg η c sl ab iY)(hl:ab.length<=100){u0:List (Str×Option Str)}(hp:wM (kY ab) [(mw,.str jE),(mR,.str mw),(jT,.str mR)]=kY u0)(e2:look e 2=some (.ref 0 5)){Q:Fl->Sl->AH->Prop}(q:∀jh,Sg η c sl u0 jh->Q .next e jh):
  W1 k (.expr (.lP (.v 2) JD (.cons (.dict (.cons (.k (.str mw)) (.k (.str jE)) (.cons (.k (.str mR)) (.k (.str mw)) (.cons (.k (.str jT)) (.k (.str mR)) .nil)))) .nil))) 0 e iY Q:=by
 refine oK (I.a) λu h=>?_
 have r':iY.reg=0:=I.kb.reg.trans hr
 wtm_at "s";wtm_at "s"
 refine pQ e2 ?_
 refine jK (ul h (by decide +kernel)) ?_
 wtm_at "W"
 have lt:=AH.pR h r'.symm
 refine nV (anp (l':=[(mw,.str jE),(mR,.str mw),(jT,.str mR)]) (AH.kO h) (AH.jF _ _) (abq lt) (by unfold kY;rw [aC];simp;exact abr hl)) ⟨rfl,q _ ?_⟩
 refine qY (I.w.at_) λg b n h1 h2=>?_
 exact ⟨(I.kb.add _).set (.inl (by simp)) _,⟨g,b,n,by rw [AH.jP (dc rfl)];exact AH.kO h1,h2⟩,by rw [AH.jP (O7 hn)];exact AH.kO I.s,_,by rw [AH.kX (AH.kO h),hp]⟩
end
section
theorem anq(hr:η.reg=0)(hn:10<=η.iZ)(w:lz η c)(hc:c<1000)(h9:η.get 0 9=some (.sd lb ub))(uY:ja lb pH=some (.ref 0 5))(h5:η.get 0 5=some (.sd (kY mq) u))(hK:40<=K):
  jb K (.st (.ref 1121)) [.ref 0 1,.ref 0 9] η λv iY=>∃hk al j u',al<4/\v=.ref 0 j/\η.iZ<=j/\iY.get 0 j=some (.list (jw (l0 hk al)))/\lz iY (c+2)/\Kb [1,5] η iY/\iY.get 0 5=some (.sd (kY (oq hk al)) u'):=by
 refine jb.le (k:=40) ?_ hK
 refine jb.at (as:=[.ref 0 1,.ref 0 9]) 0 ak4 (by wtm_at "o") rfl (by kernel_rfl) ?_;intro _ _
 have b0:kY mq=kY (mq++[]):=by rw [bU]
 rw [show sO=cut 2 sO (kj 2 sO) from rfl]
 generalize qy:kj 2 sO=rest
 unfold sO
 dsimp only [cut]
 have i9:jD tab (.ref 0 9) (.str pH) η=some (.ref 0 5):=lF h9 uY
 have S0:=AH.jF η (.list [])
 rw [hr] at S0
 have I0:Sg η c [] mq (η.add (.list [])):=⟨Kb.refl.add _,w.ka ((Ke.refl η).add (.list [])).ka,S0,u,AH.kO (o:=.list []) h5⟩
 repeat' first|wtm_at "u"|(rw [hr];wtm_at "w")|wtm_at "w"
 revert I0
 generalize η.add (.list [])=GX
 intro I0
 refine (rQ I0.w (O8 hc) (show (0:Int)<4 by decide) (dc rfl) (by wtm_at "o")).mono λv ji ⟨⟨d,e1,e2,e3⟩,w1,D1⟩=>?_
 subst e1
 have I1:=I0.dr hn D1 w1
 have stage2:∀(jh:AH) (hk:Bool),Sg η (c+1) (if hk then [j6] else []) (mq++(if hk then [(j6,some ju)] else [])) jh->WS (40 - (10+0+1)) rest 0 [some (.ref 0 1),some (.ref 0 9),some (.ref 0 5),some (.ref 0 η.iZ),none] jh (nc λv iY=>∃hk al j u',al<4/\v=.ref 0 j/\η.iZ<=j/\iY.get 0 j=some (.list (jw (l0 hk al)))/\lz iY (c+2)/\Kb [1,5] η iY/\iY.get 0 5=some (.sd (kY (oq hk al)) u')):=by
  intro jh hk I2
  have r2:jh.reg=0:=I2.kb.reg.trans hr
  rw [<-qy,show kj 2 sO=cut 4 (kj 2 sO) (kj 6 sO) from rfl]
  generalize anr:kj 6 sO=ans
  unfold sO
  dsimp only [kj,cut]
  wtm_at "W"
  have L3:=AH.jF jh (.list [.str ju,.str jG,.str jN,.str kg])
  rw [r2] at L3 ⊢
  have I3:=I2.ke ((Ke.refl jh).add (.list [.str ju,.str jG,.str jN,.str kg]))
  revert L3 I3
  generalize jh.add (.list [.str ju,.str jG,.str jN,.str kg])=jl
  intro L3 I3
  refine (rQ I3.w (abt hc) (show (0:Int)<4 by decide) (dc rfl) (by wtm_at "o")).mono λv jH ⟨⟨d,e1,e2,e3⟩,w4,D4⟩=>?_
  subst e1
  have n2:=I2.kb.iZ
  have L4:jH.get 0 jh.iZ=some (.list [.str ju,.str jG,.str jN,.str kg]):=by rw [D4.get _ _ (O9 hn n2)];exact L3
  have I4:=I3.dr hn D4 w4
  clear D4 I3 L3
  have r4:jH.reg=0:=I4.kb.reg.trans hr
  have fin:∀(jY:AH) (al:Nat) (x:PV),al<4->Sg η (c+2) ((if hk then [j6] else [])++(if al<=1 then [jT] else [])++(if al=0 then [lu] else [])++(if al=2 then [m7] else [])) (oq hk al) jY->
    WS (40 - (10+0+1)) ans 0 [some (.ref 0 1),some (.ref 0 9),some (.ref 0 5),some (.ref 0 η.iZ),some x] jY (nc λv iY=>∃hk al j u',al<4/\v=.ref 0 j/\η.iZ<=j/\iY.get 0 j=some (.list (jw (l0 hk al)))/\lz iY (c+2)/\Kb [1,5] η iY/\iY.get 0 5=some (.sd (kY (oq hk al)) u')):=by
   intro jY al x lU I5
   have r5:jY.reg=0:=I5.kb.reg.trans hr
   rw [<-anr]
   unfold sO
   dsimp only [kj]
   wtm_at "W"
   refine Dl (AH.kO I5.s) (AH.jF _ _) ?_ λnW j K6 h6 hj=>?_
   ·rw [mH]
    split<;>split<;>split<;>split<;>simp
   have r50:(jY.add (.list [.str jN,.str ju,.str jG,.str lg,.str lB,.str kE,.str j0,.str jW,.str jX])).reg=0:=r5
   rw [r50] at h6 ⊢
   have n5:=I5.kb.iZ
   rw [AH.ny] at hj
   refine oK (I5.a) λu Nu=>?_
   refine jA (aeL hk al j u lU rfl (abu hj n5) ?_ (I5.w.ka (((Ke.refl jY).add _).trans K6).ka) ((I5.kb.add _).ke K6) (K6.get _ _ _ (AH.kO Nu)))
   rw [h6]
   show some (AO.list (jw _++jw [jN,ju,jG,lg,lB,kE,j0,jW,jX]))=_
   rw [<-s7]
   rfl
  have c4:d=0\/d=1\/d=2\/d=3:=abv e2 e3
  rcases c4 with rfl|rfl|rfl|rfl
  ·refine jK (xU (n:=0) L4 rfl (dc rfl) rfl) ?_
   wtm_at "W"
   have I5:=I4.ke ((Ke.refl jH).add (.list [.str ju,.str jG]))
   refine jK (y9 (l:=[ju,jG]) (AH.jF _ _) _) ?_
   rw [show decide (ju∈([ju,jG]:List Str))=true by decide +kernel]
   revert I5
   generalize jH.add (.list [.str ju,.str jG])=jY
   intro I5
   wtm_at "s";wtm_at "s"
   refine I5.upd hr hn (by cases hk<;>decide) (u0:=mq++(if hk then [(j6,some ju)] else [])++[(mw,some jE),(mR,some mw),(jT,some mR)]) (by cases hk<;>kernel_rfl) rfl λnW I6=>?_
   wtm_at "s"
   refine I6.app hr hn (by cases hk<;>decide) jT rfl λlX I7=>?_
   clear I5 I6
   wtm_at "s"
   iterate 8 wtm_at "s"
   refine I7.put hn (by cases hk<;>decide) lu jT (u0:=mq++(if hk then [(j6,some ju)] else [])++[(mw,some jE),(mR,some mw),(jT,some mR)]++[(lu,some jT)]) (by cases hk<;>kernel_rfl) rfl λwo I8=>?_
   wtm_at "s"
   refine I8.app hr hn (by cases hk<;>decide) lu rfl λA0 I9=>?_
   wtm_at "W"
   exact fin _ 0 _ (dc rfl) (by cases hk<;>exact I9)
  ·refine jK (xU (n:=1) L4 rfl (dc rfl) rfl) ?_
   wtm_at "W"
   have I5:=I4.ke ((Ke.refl jH).add (.list [.str ju,.str jG]))
   refine jK (y9 (l:=[ju,jG]) (AH.jF _ _) _) ?_
   rw [show decide (jG∈([ju,jG]:List Str))=true by decide +kernel]
   revert I5
   generalize jH.add (.list [.str ju,.str jG])=jY
   intro I5
   wtm_at "s";wtm_at "s"
   refine I5.upd hr hn (by cases hk<;>decide) (u0:=mq++(if hk then [(j6,some ju)] else [])++[(mw,some jE),(mR,some mw),(jT,some mR)]) (by cases hk<;>kernel_rfl) rfl λnW I6=>?_
   wtm_at "s"
   refine I6.app hr hn (by cases hk<;>decide) jT rfl λlX I7=>?_
   clear I5 I6
   wtm_at "s"
   wtm_at "W"
   exact fin _ 1 _ (dc rfl) (by cases hk<;>exact I7)
  ·refine jK (xU (n:=2) L4 rfl (dc rfl) rfl) ?_
   wtm_at "W"
   have I5:=I4.ke ((Ke.refl jH).add (.list [.str ju,.str jG]))
   refine jK (y9 (l:=[ju,jG]) (AH.jF _ _) _) ?_
   rw [show decide (jN∈([ju,jG]:List Str))=false by decide +kernel]
   revert I5
   generalize jH.add (.list [.str ju,.str jG])=jY
   intro I5
   wtm_at "s"
   iterate 17 wtm_at "s"
   refine I5.put hn (by cases hk<;>decide) m7 lJ (u0:=mq++(if hk then [(j6,some ju)] else [])++[(m7,some lJ)]) (by cases hk<;>kernel_rfl) rfl λwo I8=>?_
   wtm_at "s"
   refine I8.app hr hn (by cases hk<;>decide) m7 rfl λA0 I9=>?_
   wtm_at "W"
   exact fin _ 2 _ (dc rfl) (by cases hk<;>exact I9)
  ·refine jK (xU (n:=3) L4 rfl (dc rfl) rfl) ?_
   wtm_at "W"
   have I5:=I4.ke ((Ke.refl jH).add (.list [.str ju,.str jG]))
   refine jK (y9 (l:=[ju,jG]) (AH.jF _ _) _) ?_
   rw [show decide (kg∈([ju,jG]:List Str))=false by decide +kernel]
   revert I5
   generalize jH.add (.list [.str ju,.str jG])=jY
   intro I5
   wtm_at "s"
   wtm_at "W"
   exact fin _ 3 _ (dc rfl) (by cases hk<;>exact I5)
 by_cases hd:0<d
 ·refine jK (f:=mQ .Gt _ _ _) (v:=true) (by show some (decide (0<d))=_;rw [decide_eq_true hd]) ?_
  wtm_at "s";wtm_at "s"
  refine I1.put hn (dc rfl) j6 ju (u0:=mq++[(j6,some ju)]) (by kernel_rfl) rfl λjh I2=>?_
  wtm_at "s"
  refine I2.app hr hn (by simp) j6 rfl λjl I3=>?_
  wtm_at "W"
  exact stage2 _ true I3
 ·refine jK (f:=mQ .Gt _ _ _) (v:=false) (by show some (decide (0<d))=_;rw [decide_eq_false hd]) ?_
  wtm_at "W"
  exact stage2 _ false (by simpa using I1)
end
end
section
noncomputable abbrev Rows:=List (Str×Nat×List Str)
noncomputable def xV(fl:Rows):List (Str×PV):=fl.map λp=>(p.1,.ref 0 p.2.1)
structure lY(η:AH)(i:Nat)(fl:Rows):Prop where
 at_:(fl=[]/\η.get 0 i=some .jm)\/∃u,η.get 0 i=some (.sd (xV fl) u)
 row:∀p∈fl,10<=p.2.1/\η.get 0 p.2.1=some (.list (jw p.2.2))
def rowOf(fl:Rows)(x:Str):List Str:=match ja fl x with
|some p=>p.2
|none=>[]
theorem Du(fl:Rows)(x:Str):ja (xV fl) x=(ja fl x).map λp=>.ref 0 p.1:=AY (λp:Nat×List Str=>(.ref 0 p.1:PV)) fl x
theorem qH{α:Type}:∀{l:List (Str×α)} {x:Str} {v:α},ja l x=some v->(x,v)∈l
|[],x,v,h=>by cases h
|(y,u)::r,x,v,h=>by
  unfold ja at h
  induction hq:sq y x using Bool.casesOn with
 |true=>
   rw [hq] at h
   refine xs h λlH=>?_
   try clear h
   obtain rfl:=lH
   rw [jS.mp hq]
   exact bL
 |false=>
   rw [hq] at h
   exact bu _ (qH h)
theorem ant(fl:Rows)(x:Str)(j:Nat)(r:List Str):jz (xV fl) x (.ref 0 j)=xV (jz fl x (j,r)):=by
 induction fl with
|nil=>rfl
|cons p t ih=>
  obtain ⟨y,v⟩:=p
  show jz ((y,.ref 0 v.1)::xV t) x (.ref 0 j)=xV (jz ((y,v)::t) x (j,r))
  unfold jz
  induction sq y x using Bool.casesOn with
 |true=>rfl
 |false=>exact congrArg ((y,PV.ref 0 v.1)::·) ih
theorem GY{α:Type}(x:Str)(v:α):∀(l:List (Str×α)) (p:Str×α),p∈jz l x v->p∈l\/p=(x,v)
|[],p,h=>.inr (by simpa [jz] using h)
|(y,u)::r,p,h=>by
  unfold jz at h
  induction hq:sq y x using Bool.casesOn with
 |true=>
   rw [hq] at h
   rcases aB.mp h with h|h
   ·exact .inr (by rw [h,jS.mp hq])
   ·exact .inl (bu _ h)
 |false=>
   rw [hq] at h
   rcases aB.mp h with h|h
   ·exact .inl (by rw [h];exact bL)
   ·rcases GY x v r p h with h|h
    ·exact .inl (bu _ h)
    ·exact .inr h
section
variable{a:Nat}
theorem lY.mono(R:lY η i fl)(h:∀j o,j≠1->η.get 0 j=some o->iY.get 0 j=some o)(hi:i≠1):lY iY i fl:=by
 refine ⟨?_,λp hp=>⟨(R.row p hp).1,h _ _ (by have:=(R.row p hp).1;exact Bp this) (R.row p hp).2⟩⟩
 rcases R.at_ with ⟨h1,h2⟩|⟨u,h1⟩
 ·exact .inl ⟨h1,h _ _ hi h2⟩
 ·exact .inr ⟨u,h _ _ hi h1⟩
theorem lY.ke(R:lY η i fl)(K:Ke η iY)(hi:i≠1):lY iY i fl:=R.mono (λj o J e=>K.get _ _ _ e) hi
theorem lY.dr(R:lY η i fl)(D:Dr η iY)(hi:i≠1):lY iY i fl:=R.mono (λj o hj e=>by rw [D.get _ _ (HW hj)];exact e) hi
theorem lY.other(R:lY η i fl)(o:AO)(ha:a<10)(Y3:i≠a):lY (η.set 0 a o) i fl:=by
 refine ⟨?_,λp hp=>⟨(R.row p hp).1,by rw [AH.jP (by have:=(R.row p hp).1;exact adh ha this)];exact (R.row p hp).2⟩⟩
 rcases R.at_ with ⟨h1,h2⟩|⟨u,h1⟩
 ·exact .inl ⟨h1,by rw [AH.jP (Pz Y3)];exact h2⟩
 ·exact .inr ⟨u,by rw [AH.jP (Pz Y3)];exact h1⟩
theorem lY.put(R:lY η i fl)(hi:i<10)(hl:fl.length<=100){x:Str}{r:List Str}(hj:10<=j)(hg:η.get 0 j=some (.list (jw r))):∃o,mV (.ref 0 i) (.str x) (.ref 0 j) η=some (η.set 0 i o)/\lY (η.set 0 i o) i (jz fl x (j,r)):=by
 have rows:∀o,∀p∈jz fl x (j,r),10<=p.2.1/\(η.set 0 i o).get 0 p.2.1=some (.list (jw p.2.2)):=λo p hp=>by
  have:10<=p.2.1/\η.get 0 p.2.1=some (.list (jw p.2.2)):=by
   rcases GY x (j,r) fl p hp with h|rfl
   ·exact R.row p h
   ·exact ⟨hj,hg⟩
  exact ⟨this.1,by rw [AH.jP (by omega)];exact this.2⟩
 rcases R.at_ with ⟨rfl,h⟩|⟨u,h⟩
 ·refine ⟨.sd [(x,.ref 0 j)] 0,?_,⟨.inr ⟨0,?_⟩,rows _⟩⟩
  ·exact Am h
  ·exact AH.kX h
 ·refine ⟨_,yP h (by unfold xV;rw [aC];exact Bq hl),⟨.inr ⟨u+1,?_⟩,rows _⟩⟩
  rw [AH.kX h,ant fl x j r]
theorem lY.get(R:lY η i fl)(hr:η.reg=0)(hn:10<=η.iZ)(hi:i<10){x:Str}{Q:PV->AH->Prop}(ex:look e 6=some (.str x))(q:∀j iY,Ke η iY->iY.get 0 j=some (.list (jw (rowOf fl x)))->10<=j->Q (.ref 0 j) iY):
  ∃m,pg tab (.ref 0 i) nP η=some m/\WL k (.cons (.v 6) (.cons (.list .nil) .nil)) e η λvs η=>WM k m nP vs η Q:=by
 have mh:=AH.jF η (.list [])
 rw [hr] at mh
 rcases R.at_ with ⟨rfl,h⟩|⟨u,h⟩
 ·refine jK (xF h) ?_
  wtm_at "s"
  refine pQ ex ?_
  wtm_at "W"
  rw [hr]
  exact nV (xG (AH.kO h) rfl) (q _ _ ((Ke.refl η).add _) mh hn)
 ·refine jK (ul h (by decide +kernel)) ?_
  wtm_at "s"
  refine pQ ex ?_
  wtm_at "W"
  rw [hr]
  unfold rowOf at q
  induction hf:ja fl x using Option.casesOn with
 |none=>
   rw [hf] at q
   exact nV (qV (AH.kO h) (CX (by rw [Du,hf];rfl))) (q _ _ ((Ke.refl η).add _) mh hn)
 |some p=>
   rw [hf] at q
   have hm:=R.row _ (qH hf)
   exact nV (qV (AH.kO h) (CW (by rw [Du,hf];rfl))) (q _ _ ((Ke.refl η).add _) (AH.kO hm.2) hm.1)
end
def u6(hk:Bool)(al:Nat):List Str:=[ju,jG,lB]++(if hk then [j6] else [])++(if al=0 then [lu] else [])++(if al<=1 then [jT] else [])
def anu(hk:Bool)(al:Nat)(g:Str)(r:List Str):Prop:=(g∈u6 hk al/\(r=[jN]\/r=[lg]\/r=[jN,lg]\/r=[lg,jN]))\/(g=jN/\r=[lg])
structure ou(hk:Bool)(al:Nat)(fl:Rows):Prop where
 ok:∀p∈fl,anu hk al p.1 p.2.2
 nodup:(fl.map az).Nodup
theorem ou.put(R:ou hk al fl){x:Str}(hg:g=jN\/g=lg)(hx:x∈u6 hk al\/(x=jN/\g=lg))(hn:g∉rowOf fl x):ou hk al (jz fl x (j,rowOf fl x++[g])):=by
 refine ⟨λp hp=>?_,?_⟩
 ·rcases GY x _ fl p hp with h|rfl
  ·exact R.ok p h
  ·dsimp only
   unfold rowOf at hn ⊢
   induction hf:ja fl x using Option.casesOn with
  |none=>
    rcases hx with hx|⟨rfl,rfl⟩
    ·rcases hg with rfl|rfl
     ·exact .inl ⟨hx,.inl rfl⟩
     ·exact .inl ⟨hx,.inr (.inl rfl)⟩
    ·exact .inr ⟨rfl,rfl⟩
  |some q=>
    rw [hf] at hn
    have h:=R.ok _ (qH hf)
    dsimp only at h hn ⊢
    rcases h with ⟨h1,h2⟩|⟨h1,h2⟩
    ·rcases h2 with h2|h2|h2|h2<;>rw [h2] at hn ⊢<;>rcases hg with rfl|rfl
     ·simp at hn
     ·exact .inl ⟨h1,.inr (.inr (.inl rfl))⟩
     ·exact .inl ⟨h1,.inr (.inr (.inr rfl))⟩
     ·simp at hn
     ·simp at hn
     ·simp at hn
     ·simp at hn
     ·simp at hn
    ·rw [h2] at hn ⊢
     rcases hx with hx|⟨_,rfl⟩
     ·exfalso
      subst h1
      revert hx
      unfold u6
      cases hk<;>(by_cases h0:al=0)<;>(by_cases h1:al<=1)<;>simp only [h0,h1,if_true,if_false]<;>decide +kernel
     ·simp at hn
 ·rw [xP]
  split
  ·exact R.nodup
  ·rename_i h
   rw [cA]
   exact ⟨R.nodup,by simp,λa ha b hb e=>by rw [aJ.mp hb] at e;exact h (e▸ha)⟩
end
theorem Y4{α:Type}(l:List (Str×α))(x:Str)(v:α):(jz l x v).length<=l.length+1:=by
 have:=congrArg gf (xP x v l)
 rw [aC] at this
 rw [this]
 split<;>simp
def xW:jn:=match CC with
|.cons (.for _ _ _ b) _=>b
|_=>.nil
theorem anv(h:η.get 0 5=some (.sd (kY (oq hk al)) u))(x:Str):mQ .In (.str x) (.ref 0 5) η=some (ja (oq hk al) x).isSome:=by
 show (η.get 0 5).bind _=_
 refine jC h ?_
 unfold kY
 exact congrArg some (by dsimp only;rw [AY wj];cases ja (oq hk al) x<;>rfl)
theorem anw(lU:al<4){x:Str}(h:x∈[ju,jG,lB]++(if g=lg then [jN] else [])++[j6,lu,jT].filter λy=>(ja (oq hk al) y).isSome):x∈u6 hk al\/(x=jN/\g=lg):=by
 rcases aH.mp h with h|h
 ·rcases aH.mp h with h|h
  ·left
   unfold u6
   exact bD _ (bD _ (bD _ h))
  ·split at h
   ·rename_i hg
    exact .inr ⟨aJ.mp h,hg⟩
   ·simp at h
 ·left
  refine jB (cC.mp h) λh1 h2=>?_
  have c4:al=0\/al=1\/al=2\/al=3:=DL lU
  simp only [aB,aU,or_false] at h1
  rcases c4 with rfl|rfl|rfl|rfl<;>cases hk<;>rcases h1 with rfl|rfl|rfl<;>revert h2<;>decide +kernel
theorem anx{r:Nat}{b:Bool}{Q:PV->AH->Prop}(h:η.get r i=some (.list [v]))(q:∀jh j,Ke η jh->jh.get η.reg j=some (.list (if b then [v] else []))->η.iZ<=j->Q (.ref η.reg j) jh):∃u iY,qK .Mult (.ref r i) (.int (cond b 1 0)) η=some (u,iY)/\Q u iY:=by
 refine lS (v:=.ref η.reg η.iZ) (u:=η.add (.list (if b then [v] else []))) ?_ (q _ _ ((Ke.refl η).add _) (AH.jF _ _) (ak _))
 exact jC (nJ h) (by cases b<;>rfl)
section
theorem Y5(hr:η.reg=0)(hn:10<=η.iZ)(h9:η.get 0 9=some (.sd lb ub))(uY:ja lb pH=some (.ref 0 5))(lU:al<4)(h5:η.get 0 5=some (.sd (kY (oq hk al)) u))(hkk:20<=k)
   {s:Str} {a b:Nat} {rows Y6:Rows} (hg:g=jN\/g=lg) (hs:ja lb s=some (.ref 0 a)) (qX:(a=6/\b=7)\/(a=7/\b=6)) (R:lY jh a rows) (R2:lY jh b Y6) (ok:ou hk al rows) (hl:rows.length<=50) (w:lz jh c) (hc:c<900) (kb:Kb [1,6,7] η jh)
   {Q:Fl->Sl->AH->Prop}
  (q:∀jl zg p5 p6 p7,lY jl a zg->lY jl b Y6->ou hk al zg->zg.length<=rows.length+1->lz jl (c+1)->Kb [1,6,7] η jl->Q .next [some (.ref 0 1),some (.ref 0 9),p2,some (.str g),some (.str s),p5,p6,p7,p8,p9] jl) :
  WS k (kj 1 xW) 0 [some (.ref 0 1),some (.ref 0 9),p2,some (.str g),some (.str s),p5,p6,p7,p8,p9] jh Q:=by
 unfold xW CC
 dsimp only [kj]
 have r2:jh.reg=0:=kb.reg.trans hr
 have h92:=kb.get 9 _ (dc rfl) h9
 have h52:=kb.get 5 _ (dc rfl) h5
 have A4:∀e:AH,mQ .Eq (.str g) (.str lg) e=some (decide (g=lg)):=λe=>by
  show some (sq g lg)=_
  congr 1
  rw [fC,jS,decide_eq_true_iff]
 wtm_at "W"
 rw [show sq g lg=decide (g=lg) by rw [fC,jS,decide_eq_true_iff]]
 refine jb.mX (by wtm_at "o") (by intro _ h;cases h) (show qk tab (.type "int") [.bool (decide (g=lg))] _=some (.int (cond (decide (g=lg)) 1 0),_) from rfl) ?_
 have Y7:Ke jh ((jh.add (.list [.str ju,.str jG,.str lB])).add (.list [.str jN])):=((Ke.refl jh).add _).add _
 refine anx (AH.jF _ _) λjl j3 K3 h3 hj3=>?_
 refine Dl (K3.get _ _ _ (AH.kO (AH.jF _ _))) h3 (by split<;>simp) λjH j4 K4 h4 hj4=>?_
 have GZ:=(Y7.trans K3).trans K4
 have r4:jH.reg=0:=GZ.reg.trans r2
 have r3:jl.reg=0:=(Y7.trans K3).reg.trans r2
 have h4:jH.get 0 j4=some (.list (jw ([ju,jG,lB]++(if g=lg then [jN] else [])))):=by
  rw [r3] at h4
  rw [h4]
  by_cases e:g=lg<;>simp [e,jw]
 rw [r3]
 have Dv:=GZ.get _ _ _ h92
 have i9:∀(x:Str) (v:PV),ja lb x=some v->∀iY,Ke jH iY->jD tab (.ref 0 9) (.str x) iY=some v:=λx v hx iY K=>lF (K.get _ _ _ Dv) hx
 refine rH ?_
 wtm_at "W"
 have hF:=AH.jF jH (.list [.str j6,.str lu,.str jT])
 have KF:=(Ke.refl jH).add (.list [.str j6,.str lu,.str jT])
 rw [r4] at hF ⊢
 refine ⟨_,sU hF,rfl,?_⟩
 rw [sV hF]
 revert hF KF
 generalize jH.add (.list [.str j6,.str lu,.str jT])=jY
 intro hF KF
 have r5:jY.reg=0:=KF.reg.trans r4
 rw [r5]
 simp only [clear,qB,qC]
 let oW:Str->Bool:=λy=>(ja (oq hk al) y).isSome
 refine uh .str [j6,lu,jT] (dc rfl) (λy:Option PV=>[some (.ref 0 1),some (.ref 0 9),p2,some (.str g),some (.str s),p5,p6,p7,none,y]) (λd J iY=>Ke jY iY/\iY.get 0 jY.iZ=some (.list (jw (d.filter oW)))) _ rfl (λd J iY h=>h.1.get _ _ _ hF) ⟨(Ke.refl _).add _,by have:=AH.jF jY (.list []);rw [r5] at this;exact this⟩ ?_ ?_
 ·intro d x t y iY hd I GG qG
  refine jB I λK6 h6=>?_
  refine ⟨_,rfl,?_⟩
  simp only [qB,qC]
  have ia:=i9 pH _ uY iY (KF.trans K6)
  have nB:d.length<3:=by have:([j6,lu,jT]:List Str).length=3:=rfl;rw [hd] at this;simp at this;exact adl this
  have pS:=bV oW d
  wtm_at "W"
  refine jK (anv (((GZ.trans KF).trans K6).get _ _ _ h52) x) ?_
  induction lE:(ja (oq hk al) x).isSome using Bool.casesOn with
 |false=>
   refine ⟨false,rfl,λh=>(nomatch h),λJ=>⟨λh=>(nomatch h),λJ=>qG _ _ ⟨K6,?_⟩⟩⟩
   have:oW x=false:=lE
   rw [h6,b8]
   simp [this]
 |true=>
   refine ⟨true,rfl,λJ=>?_,λh=>nomatch h⟩
   wtm_at "s"
   refine ⟨λJ=>?_,λh=>nomatch h⟩
   wtm_at "W"
   have:oW x=true:=lE
   refine ⟨_,?_,qG _ _ ⟨K6.set r5.symm (ak _) _,AH.kX h6⟩⟩
   refine (rI h6).trans ?_
   rw [lM (by rw [mH];exact adn nB pS),cond_true,b8,s7]
   simp [this,jw]
 intro y nW I
 refine jB I λK6 h6=>?_
 have G0:=KF.trans K6
 have r6:nW.reg=0:=G0.reg.trans r4
 refine Dl (G0.get _ _ _ h4) h6 ?_ λlX j7 K7 h7 J=>?_
 ·rw [mH,mH]
  have:=bV oW [j6,lu,jT]
  simp only [aE,aZ,dw] at this ⊢
  split<;>simp<;>(first|exact ado this|exact adp this)
 rw [r6] at h7 ⊢
 rw [<-s7] at h7
 have Dw:=(GZ.trans G0).trans K7
 have r7:lX.reg=0:=Dw.reg.trans r2
 have R7:=R.ke Dw (DU qX)
 have Y8:=R2.ke Dw (DV qX)
 have w7:=w.ka Dw.ka
 have vd:=kb.ke Dw
 have Y9:∀x∈([ju,jG,lB]++(if g=lg then [jN] else [])++[j6,lu,jT].filter oW),x∈u6 hk al\/(x=jN/\g=lg):=λx hx=>anw lU hx
 have G3:([ju,jG,lB]++(if g=lg then [jN] else [])++[j6,lu,jT].filter oW).length<=7:=by
  have:=bV oW [j6,lu,jT]
  simp only [aE,aZ,dw] at this ⊢
  split<;>simp<;>(first|exact adq this|exact ads this)
 have Nv:0<([ju,jG,lB]++(if g=lg then [jN] else [])++[j6,lu,jT].filter oW).length:=by simp
 generalize ([ju,jG,lB]++(if g=lg then [jN] else [])++[j6,lu,jT].filter oW)=Dx at h7 Y9 G3 Nv
 clear K7 h6 K6 G0 KF hF h4 h3 K4 K3 hj3 hj4
 wtm_at "W"
 refine jb.mX (by wtm_at "o") (by intro _ h;cases h) (Gz h7 (by rw [mH];exact adt G3)) ?_
 rw [mH]
 wtm_at "W"
 refine (rQ w7 (adu hc) (show (0:Int)<(Dx.length:Int) by exact Br Nv) (adv G3) (by wtm_at "o")).mono λv wo ⟨⟨d,e1,e2,e3⟩,w8,D8⟩=>?_
 subst e1
 obtain ⟨n,rfl⟩:∃n:Nat,d=n:=⟨d.toNat,by exact wC e2⟩
 have Za:n<Dx.length:=HV e3
 have anz:j7≠1:=by
  rintro rfl
  refine qY (w7.at_) λx y z h J=>?_
  rw [h] at h7
  induction Dx using List.casesOn with
 |nil=>simp at Nv
 |cons a t=>injection h7 with h7;injection h7 with h7;injection h7 with h7;cases h7
 have Zb:wo.get 0 j7=some (.list (jw Dx)):=by rw [D8.get _ _ (HW anz)];exact h7
 have Zc:=Y9 _ (dj Za)
 refine jK (item_str Zb (adw G3 e3) (aR Za)) ?_
 generalize Dx[n]=goal at Zc ⊢
 have r8:wo.reg=0:=D8.reg.trans r7
 have R8:=R7.dr D8 (DU qX)
 have R28:=Y8.dr D8 (DV qX)
 have xX:=vd.dr D8 (by simp)
 have n8:=xX.iZ
 have G4:=xX.get 9 _ (dc rfl) h9
 have is8:jD tab (.ref 0 9) (.str s) wo=some (.ref 0 a):=lF G4 hs
 clear D8 Zb w7 R7 Y8 vd h7
 wtm_at "W"
 refine R8.get r8 (adx hn n8) (Ie qX) rfl λj9 A0 K9 A5 hj9=>?_
 have R9:=R8.ke K9 (DU qX)
 have Zd:=R28.ke K9 (DV qX)
 have w9:=w8.ka K9.ka
 have G5:=xX.ke K9
 have r9:A0.reg=0:=K9.reg.trans r8
 wtm_at "W"
 have lE:se (.str g) (.ref 0 j9) A0=some (decide (g∈rowOf rows goal)):=y9 A5 g
 refine Ay lE ?_
 by_cases Nx:g∈rowOf rows goal
 ·rw [decide_eq_true Nx]
  wtm_at "W"
  exact q _ _ _ _ _ R9 Zd ok (DN) w9 G5
 ·rw [decide_eq_false Nx]
  have MY:(rowOf rows goal).length<=2:=by
   unfold rowOf
   induction hf:ja rows goal using Option.casesOn with
  |none=>simp
  |some p=>
    have:=ok.ok _ (qH hf)
    dsimp only
    rcases this with ⟨_,h⟩|⟨_,h⟩<;>dsimp only at h
    ·rcases h with h|h|h|h<;>rw [h]<;>simp
    ·rw [h];simp
  wtm_at "W"
  refine Dl (AH.kO A5) (AH.jF _ _) (by rw [mH];simp;exact ady MY) λDm Ze K10 A6 Zf=>?_
  rw [AH.nH,r9] at A6 ⊢
  have Dy:=((Ke.refl A0).add (.list [.str g])).trans K10
  have h99:=(G5.ke Dy).get 9 _ (dc rfl) h9
  have aqQ:jD tab (.ref 0 9) (.str s) Dm=some (.ref 0 a):=lF h99 hs
  have n9:=G5.iZ
  rw [AH.ny] at Zf
  have A6:Dm.get 0 Ze=some (.list (jw (rowOf rows goal++[g]))):=by rw [A6,s7];rfl
  refine jL ((R9.ke Dy (DU qX)).put (Ie qX) (adz hl) (x:=goal) (j:=Ze) (adA hn Zf n9) A6) λo p1 p2=>?_
  wtm_at "W"
  refine qY ((w9.ka Dy.ka).at_) λg' b' n' hw ur=>?_
  refine q _ _ _ _ _ p2 ((Zd.ke Dy (DV qX)).other o (Ie qX) (adB qX)) (ok.put hg Zc Nx) ?_ ⟨g',b',n',by rw [AH.jP (adC qX)];exact hw,ur⟩ ((G5.ke Dy).set (.inl ?_) o)
  ·exact ah (Y4 _ _ _) (adD)
  ·rcases qX with ⟨rfl,_⟩|⟨rfl,_⟩<;>simp
structure MX(η:AH)(hk:Bool)(al c j:Nat)(iY:AH):Prop where
 rows:∃fl ml,lY iY 6 fl/\lY iY 7 ml/\ou hk al fl/\ou hk al ml/\fl.length<=j/\ml.length<=j
 w:lz iY (c+1+2*j)
 kb:Kb [1,6,7] η iY
theorem anA(hr:η.reg=0)(hn:10<=η.iZ)(h9:η.get 0 9=some (.sd lb ub))(uY:ja lb pH=some (.ref 0 5))(wh:ja lb pI=some (.ref 0 6))(hmx:ja lb mz=some (.ref 0 7))(lU:al<4)(h5:η.get 0 5=some (.sd (kY (oq hk al)) u))
  (h6:η.get 0 6=some .jm) (h7:η.get 0 7=some .jm) (w:lz η c) (hc:c<800) (hK:40<=K) :
  jb K (.st (.ref 1126)) [.ref 0 1,.ref 0 9] η λv iY=>v=.none/\∃fl ml,lY iY 6 fl/\lY iY 7 ml/\ou hk al fl/\ou hk al ml/\fl.length<=3/\ml.length<=3/\lz iY (c+10)/\Kb [1,6,7] η iY:=by
 refine jb.le (k:=40) ?_ hK
 refine jb.v9 8 (as:=[.ref 0 1,.ref 0 9]) 0 ak5 (by wtm_at "o") rfl (by kernel_rfl) ?_;intro _ _
 unfold CC
 wtm_at "W"
 refine (rQ w (adE hc) (show (0:Int)<3 by decide) (dc rfl) (by wtm_at "o")).mono λv ji ⟨⟨d,e1,e2,e3⟩,w1,D1⟩=>?_
 subst e1
 obtain ⟨n,rfl⟩:∃n:Nat,d=n:=⟨d.toNat,by exact wC e2⟩
 refine lS (v:=.int (1+n)) (u:=ji) rfl ?_
 rw [show (1+(n:Int))=((1+n:Nat):Int) by exact adF]
 wtm_at "W"
 refine jb.mX (by wtm_at "o") (by intro _ h;cases h) (Df (n:=1+n) (PA e3)) ?_
 have kb1:Kb [1,6,7] η ji:=Kb.refl.dr D1 (by simp)
 have Zg:ou hk al []:=⟨λp h=>(nomatch h),dI⟩
 refine F0 (n:=1+n) (PA e3) (λx:Jk=>[some (.ref 0 1),some (.ref 0 9),x 0,x 1,x 2,x 3,x 4,x 5,x 6,x 7]) (λj J iY=>MX η hk al c j iY) (λi=>[_,_,_,_,_,_,_,_].getD i none) rfl ⟨⟨[],[],⟨.inl ⟨rfl,by rw [D1.get _ _ (dc rfl)];exact h6⟩,λp h=>nomatch h⟩,⟨.inl ⟨rfl,by rw [D1.get _ _ (dc rfl)];exact h7⟩,λp h=>nomatch h⟩,Zg,Zg,ak _,ak _⟩,w1,kb1⟩ ?_ ?_
 ·intro x t jk jh hlen I GG qG
  obtain ⟨⟨fl,ml,R6,R7,A7,A8,l6,l7⟩,w2,kb2⟩:=I
  have hx:x=x:=rfl
  refine ⟨_,rfl,?_⟩
  simp only [qB,qC]
  obtain ⟨g,hg,hi⟩:∃g,(g=jN\/g=lg)/\∀e:AH,jD tab (.str Ry) (.int x) e=some (.str g):=by
   have:x=0\/x=1\/x=2:=adG e3 hlen hx
   rcases this with rfl|rfl|rfl
   ·exact ⟨jN,.inl rfl,λe=>by kernel_rfl⟩
   ·exact ⟨lg,.inr rfl,λe=>by kernel_rfl⟩
   ·exact ⟨jN,.inl rfl,λe=>by kernel_rfl⟩
  have r2:jh.reg=0:=kb2.reg.trans hr
  show WS _ xW 0 _ _ _
  rw [show xW=cut 1 xW (kj 1 xW) from rfl]
  generalize qy:kj 1 xW=rest
  unfold xW CC
  dsimp only [cut]
  have hi2:=hi jh
  wtm_at "W"
  have hL:=AH.jF jh (.list [.str mz,.str pI])
  have KL:=(Ke.refl jh).add (.list [.str mz,.str pI])
  rw [r2] at hL ⊢
  have n2:=kb2.iZ
  have Ny:=R6.ke KL (dc rfl)
  have Nz:=R7.ke KL (dc rfl)
  have NB:=w2.ka KL.ka
  have NC:=kb2.ke KL
  revert hL Ny Nz NB NC
  generalize jh.add (.list [.str mz,.str pI])=jl
  intro hL Ny Nz NB NC
  refine (rQ NB (adH hc e3 hlen) (show (0:Int)<2 by decide) (dc rfl) (by wtm_at "o")).mono λv jH ⟨⟨d',e1,e2,e3⟩,w4,D4⟩=>?_
  subst e1
  have Zh:jH.get 0 jh.iZ=some (.list [.str mz,.str pI]):=by rw [D4.get _ _ (O9 hn n2)];exact hL
  have Zi:=Ny.dr D4 (dc rfl)
  have Zj:=Nz.dr D4 (dc rfl)
  have tf:=NC.dr D4 (by simp)
  have c2:d'=0\/d'=1:=adJ e2 e3
  rcases c2 with rfl|rfl
  ·refine jK (xU (n:=0) Zh rfl (dc rfl) rfl) ?_
   wtm_at "W"
   rw [<-qy]
   refine Y5 hr hn h9 uY lU h5 (dc rfl) hg hmx (.inr ⟨rfl,rfl⟩) Zj Zi A8 (PB (by assumption) l7 hlen) w4 (PC hc (by assumption) hlen) tf λjY zg p5 p6 p7 S7 S6 ND l' w5 ve=>?_
   exact qG (λi=>([some (.int x),some (.str g),some (.str mz),p5,p6,p7,jk 6,jk 7]:Sl).getD i none) _ ⟨⟨fl,zg,S6,S7,A7,ND,by exact zo l6,by exact HF l7 l'⟩,w5,ve⟩
  ·refine jK (xU (n:=1) Zh rfl (dc rfl) rfl) ?_
   wtm_at "W"
   rw [<-qy]
   refine Y5 hr hn h9 uY lU h5 (dc rfl) hg wh (.inl ⟨rfl,rfl⟩) Zi Zj A7 (PB (by assumption) l6 hlen) w4 (PC hc (by assumption) hlen) tf λjY zg p5 p6 p7 S6 S7 ND l' w5 ve=>?_
   exact qG (λi=>([some (.int x),some (.str g),some (.str pI),p5,p6,p7,jk 6,jk 7]:Sl).getD i none) _ ⟨⟨zg,ml,S6,S7,ND,A8,by exact HF l6 l',by exact zo l7⟩,w5,ve⟩
 ·intro x jh I
  obtain ⟨⟨fl,ml,R6,R7,A7,A8,l6,l7⟩,w2,kb2⟩:=I
  wtm_at "W"
  exact wc ⟨rfl,fl,ml,R6,R7,A7,A8,by exact PD e3 l6,by exact PD e3 l7,w2.le (adK e3),kb2⟩
end
abbrev pB:=List (Str×oV)
def xY(hl:pB):List (Str×PV):=hl.map λp=>(p.1,lA p.2)
def nO(η:AH)(hl:pB):Prop:=(hl=[]/\η.get 0 8=some .jm)\/∃u,η.get 0 8=some (.sd (xY hl) u)
structure uv(sp:List Str)(nt pD:Str)(hl:pB):Prop where
 ok:∀p∈hl,p.1∈sp/\(((p.2.1=sD\/p.2.1=m8\/p.2.1=ly)/\(p.2.2.1=kh\/p.2.2.1=lO\/p.2.2.1=nj)/\p.2.2.2∈sp)\/(p.2.1=kJ/\p.2.2.1=pD/\p.2.2.2=p.1/\p.1=nt/\nt≠kg))
 nodup:(hl.map az).Nodup
 nt:nt≠kg->nt∈hl.map az
theorem anB(hl:pB)(x:Str)(h:oV):jz (xY hl) x (lA h)=xY (jz hl x h):=by
 induction hl with
|nil=>rfl
|cons p t ih=>
  obtain ⟨y,v⟩:=p
  show jz ((y,lA v)::xY t) x (lA h)=xY (jz ((y,v)::t) x h)
  unfold jz
  induction sq y x using Bool.casesOn with
 |true=>rfl
 |false=>exact congrArg ((y,lA v)::·) ih
theorem uv.put{sp:List Str}{nt pD:Str}(H:uv sp nt pD hl){x s o:Str}(hx:x∈sp)(hs:s=sD\/s=m8\/s=ly)(hg:g=kh\/g=lO\/g=nj)(ho:o∈sp):uv sp nt pD (jz hl x (s,g,o)):=by
 refine ⟨λp hp=>?_,?_,λh=>?_⟩
 ·rcases GY x _ hl p hp with h|rfl
  ·exact H.ok p h
  ·exact ⟨hx,.inl ⟨hs,hg,ho⟩⟩
 ·rw [xP]
  split
  ·exact H.nodup
  ·rename_i h
   rw [cA]
   exact ⟨H.nodup,by simp,λa ha b hb e=>by rw [aJ.mp hb] at e;exact h (e▸ha)⟩
 ·rw [xP]
  split
  ·exact H.nt h
  ·exact bD _ (H.nt h)
section
theorem nO.mono(E:nO η hl)(h:∀o,η.get 0 8=some o->iY.get 0 8=some o):nO iY hl:=by
 rcases E with ⟨h1,h2⟩|⟨u,h1⟩
 ·exact .inl ⟨h1,h _ h2⟩
 ·exact .inr ⟨u,h _ h1⟩
theorem nO.dr(E:nO η hl)(D:Dr η iY):nO iY hl:=E.mono λo e=>by rw [D.get _ _ (dc rfl)];exact e
theorem nO.put(E:nO η hl)(hn:hl.length<=100)(x:Str)(h:oV):∃o,mV (.ref 0 8) (.str x) (lA h) η=some (η.set 0 8 o)/\nO (η.set 0 8 o) (jz hl x h):=by
 rcases E with ⟨rfl,h1⟩|⟨u,h1⟩
 ·refine ⟨.sd [(x,lA h)] 0,?_,.inr ⟨0,AH.kX h1⟩⟩
  exact Am h1
 ·refine ⟨_,yP h1 (by unfold xY;rw [aC];exact Bq hn),.inr ⟨u+1,?_⟩⟩
  rw [AH.kX h1,anB]
end
section
theorem Zk(w:lz η c)(hc:c<5000)(hk:20<=k){m:Nat}{M:List Str}(hm:m≠1)(hM:η.get 0 m=some (.list (jw M)))(mh:0<M.length)(hl:M.length<=60000){Q:PV->AH->Prop}(q:∀x iY,x∈M->lz iY (c+1)->Dr η iY->Q (.str x) iY):
  jb k (.st (.builtin "len")) [.ref 0 m] η λv η=>WL k .nil e η λvs η=>jb k (.st (.ref 1114)) (.ref 0 1::v::vs) η λkv η=>∃v,jD tab (.ref 0 m) kv η=some v/\Q v η:=by
 refine jb.mX (by wtm_at "o") (by intro _ h;cases h) (Gz hM (by rw [mH];exact DJ hl)) ?_
 rw [mH]
 wtm_at "s"
 refine (rQ w (HS hc) (show (0:Int)<(M.length:Int) by exact Br mh) (OS hl) (by wtm_at "o")).mono λv iY ⟨⟨d,h1,h2,h3⟩,w',D⟩=>?_
 subst h1
 obtain ⟨n,rfl⟩:∃n:Nat,d=n:=⟨d.toNat,by exact wC h2⟩
 have hn:n<M.length:=HV h3
 have Nm:iY.get 0 m=some (.list (jw M)):=by rw [D.get _ _ (HW hm)];exact hM
 refine jK (item_str Nm (OU hl h3) (aR hn)) ?_
 exact q _ iY (dj hn) w' D
theorem NF(hr:η.reg=0)(h1:1<η.iZ)(w:lz η c)(hc:c<5000)(hk:20<=k){n:Nat}{N:Int}(hN:N=n)(hl:l.length=n)(hn:0<n)(rF:n<1000){Q:PV->AH->Prop}(q:∀v iY,v∈l->lz iY (c+1)->Kb [1] η iY->Q v iY):
  jb k (.st (.ref 1114)) [.ref 0 1,.int N] (η.add (.list l)) λkv iY=>∃v,jD tab (.ref η.reg η.iZ) kv iY=some v/\Q v iY:=by
 subst hN
 refine (rQ (w.ka ((Ke.refl η).add _).ka) (HS hc) (show (0:Int)<(n:Int) by exact Br hn) (OV rF) (by wtm_at "o")).mono λv iY ⟨⟨d,e1,e2,e3⟩,w',D⟩=>?_
 subst e1
 obtain ⟨i,rfl⟩:∃i:Nat,d=i:=⟨d.toNat,by exact wC e2⟩
 have hi:i<l.length:=OW hl e3
 have hL:iY.get 0 η.iZ=some (.list l):=by
  rw [D.get _ _ (OX h1)]
  have:=AH.jF η (.list l)
  rw [hr] at this
  exact this
 rw [hr]
 refine jK (xU hL rfl (OY rF e3) (aR hi)) ?_
 exact q _ iY (dj hi) w' ((Kb.refl.add _).dr D (by simp))
theorem nO.kb{ex:List Nat}(E:nO η hl)(K:Kb ex η iY)(h:8∉ex):nO iY hl:=E.mono λo e=>K.get _ _ h e
structure HX(η:AH)(sp:List Str)(nt pD:Str)(c j:Nat)(iY:AH):Prop where
 has:∃hl,nO iY hl/\uv sp nt pD hl/\hl.length<=10+j
 w:lz iY (c+1+5*j)
 kb:Kb [1,8] η iY
theorem anC(hr:η.reg=0)(hn:10<=η.iZ)(h9:η.get 0 9=some (.sd lb ub))(hlb:lb.length<=100)(Zm:ja lb nQ=some (.ref 0 8)){js:Nat}(xQ:ja lb m9=some (.ref 0 js)){sp:List Str}(G6:10<=js)(hS:η.get 0 js=some (.list (jw sp)))(NH:4<=sp.length)(GH:sp.length<=100)
   (E:nO η hl) {nt pD:Str} (ok:uv sp nt pD hl) (hhl:hl.length<=10) (w:lz η c) (hc:c<500) {most:Nat} (qh:most=2\/most=5) (hK:40<=K) :
  jb K (.st (.ref 1133)) [.ref 0 1,.ref 0 9,.int most] η λv iY=>v=.none/\∃hl f u,nO iY hl/\uv sp nt pD hl/\hl≠[]/\f∈sp/\iY.get 0 9=some (.sd (jz lb mO (.str f)) u)/\lz iY (c+40)/\Kb [1,8,9] η iY:=by
 refine jb.le (k:=40) ?_ hK
 refine jb.at (as:=[.ref 0 1,.ref 0 9,.int most]) 0 ak6 (by wtm_at "o") rfl (by kernel_rfl) ?_;intro _ _
 rw [show qR=cut 2 qR (kj 2 qR) from rfl]
 generalize qy:kj 2 qR=rest
 unfold qR
 dsimp only [cut]
 have Zn:jD tab (.ref 0 9) (.str m9) η=some (.ref 0 js):=lF h9 xQ
 wtm_at "W"
 refine (rQ w (aaO hc) (show (0:Int)<(most:Int) by exact aaP qh) (aaQ qh) (by wtm_at "o")).mono λv ji ⟨⟨d,e1,e2,e3⟩,w1,D1⟩=>?_
 subst e1
 obtain ⟨n,rfl⟩:∃n:Nat,d=n:=⟨d.toNat,by exact wC e2⟩
 wtm_at "W"
 refine jb.mX (by wtm_at "o") (by intro _ h;cases h) (Df (n:=n) (OZ qh e3)) ?_
 refine F0 (OZ qh e3) (λx:Jk=>[some (.ref 0 1),some (.ref 0 9),some (.int most),some (.ref 0 js),x 0,x 1,x 2,x 3,x 4,x 5,x 6]) (λj J iY=>HX η sp nt pD c j iY) (λi=>[_,_,_,_,_,_,_].getD i none) rfl ⟨⟨hl,E.dr D1,ok,hhl⟩,w1,Kb.refl.dr D1 (by simp)⟩ ?_ ?_
 ·intro x t jk jh hlen I GG qG
  obtain ⟨⟨zh,E2,Cm,l2⟩,w2,kb2⟩:=I
  refine ⟨_,rfl,?_⟩
  simp only [qB,qC]
  have r2:jh.reg=0:=kb2.reg.trans hr
  have n2:=kb2.iZ
  have Zo:∀iY,Kb [1,8] η iY->iY.get 0 js=some (.list (jw sp)):=λiY K=>K.get _ _ (by simp;exact O0 G6) hS
  wtm_at "W"
  refine Zk w2 (aaR hc qh e3 hlen) (dc rfl) (Bp G6) (Zo _ kb2) (O1 NH) (O2 GH) λsx jl Zq w3 D3=>?_
  have A9:=kb2.dr D3 (by simp)
  have E3:=E2.dr D3
  clear D3
  wtm_at "W"
  refine (rQ w3 (aaS hc qh e3 hlen) (show (0:Int)<8 by decide) (dc rfl) (by wtm_at "o")).mono λv jH ⟨⟨wy,e1,e2,e3⟩,w4,D4⟩=>?_
  subst e1
  have tf:=A9.dr D4 (by simp)
  have E4:=E3.dr D4
  have r4:jH.reg=0:=tf.reg.trans hr
  have n4:=tf.iZ
  clear D4
  wtm_at "W"
  refine NF (k:=40 - (12+0+1)) (n:=3) r4 (HY hn n4) w4 (aaT hc qh (by assumption) hlen) (dc rfl) rfl rfl (dc rfl) (dc rfl) λsg jY uZ w5 D5=>?_
  have ve:=tf.trans D5 (by simp)
  have E5:=E4.kb D5 (by simp)
  clear D5
  obtain ⟨sg,rfl,G7⟩:∃g:Str,sg=.str g/\(g=kh\/g=lO\/g=nj):=by
   simp only [aB,aU,or_false] at uZ
   rcases uZ with h|h|h
   ·exact ⟨_,h,.inr (.inl rfl)⟩
   ·exact ⟨_,h,.inl rfl⟩
   ·exact ⟨_,h,.inr (.inr rfl)⟩
  wtm_at "W"
  refine (rQ w5 (aaU hc qh (by assumption) hlen) (show (0:Int)<4 by decide) (dc rfl) (by wtm_at "o")).mono λv nW ⟨⟨d4,e1,_,_⟩,w6,D6⟩=>?_
  subst e1
  have uw:=ve.dr D6 (by simp)
  have E6:=E5.dr D6
  clear D6
  have tail:∀(lX:AH) (o:Str) (G8:Option PV) (P:QS),o∈sp->lz lX (c+1+5*(x+1))->Kb [1,8] η lX->nO lX zh->(∀o' p9,HX η sp nt pD c (x+1) (lX.set 0 8 o')->P .next [some (.ref 0 1),some (.ref 0 9),some (.int most),some (.ref 0 js),some (.int x),some (.str sx),some (.int wy),some (.str sg),some (.str o),p9,G8] (lX.set 0 8 o'))->WS (40 - (12+0+1)) (match kj 1 qR with
  |.cons (.for _ _ _ b) _=>kj 3 b
  |_=>.nil) 0 [some (.ref 0 1),some (.ref 0 9),some (.int most),some (.ref 0 js),some (.int x),some (.str sx),some (.int wy),some (.str sg),some (.str o),jk 5,G8] lX P:=by
   intro lX o G8 P ho w7 vd E7 q7
   unfold qR
   dsimp only [kj]
   have NJ:=vd.get 9 _ (dc rfl) h9
   have ih:jD tab (.ref 0 9) (.str nQ) lX=some (.ref 0 8):=lF NJ Zm
   have fin:∀(s g:Str) (o':AO),(s=sD\/s=m8\/s=ly)->(g=kh\/g=lO\/g=nj)->nO (lX.set 0 8 o') (jz zh sx (s,g,o))->HX η sp nt pD c (x+1) (lX.set 0 8 o'):=λs g o' hs hg hE=>by
    refine qY (w7.at_) λg' b' n' hw ur=>?_
    exact ⟨⟨_,hE,Cm.put Zq hs hg ho,ah (Y4 _ _ _) (aaV l2)⟩,⟨g',b',n',by rw [AH.jP (dc rfl)];exact hw,ur⟩,vd.set (.inl (by simp)) _⟩
   have NK:zh.length<=100:=aaW qh (by assumption) l2 hlen
   wtm_at "W"
   by_cases h5:wy=5
   ·rw [show decide (wy=5)=true from decide_eq_true h5]
    refine jL (E7.put NK sx (m8,kh,o)) λo' p1 p2=>?_
    have p1:mV (.ref 0 8) (.str sx) (.tup [.str m8,.str kh,.str o]) lX=_:=p1
    wtm_at "W"
    exact q7 _ _ (fin m8 kh o' (.inr (.inl rfl)) (.inl rfl) p2)
   ·rw [show decide (wy=5)=false from decide_eq_false h5]
    wtm_at "W"
    by_cases h6:5<wy
    ·rw [show decide (5<wy)=true from decide_eq_true h6]
     refine jL (E7.put NK sx (ly,sg,o)) λo' p1 p2=>?_
     have p1:mV (.ref 0 8) (.str sx) (.tup [.str ly,.str sg,.str o]) lX=_:=p1
     wtm_at "W"
     exact q7 _ _ (fin ly sg o' (.inr (.inr rfl)) G7 p2)
    ·rw [show decide (5<wy)=false from decide_eq_false h6]
     refine jL (E7.put NK sx (sD,sg,o)) λo' p1 p2=>?_
     have p1:mV (.ref 0 8) (.str sx) (.tup [.str sD,.str sg,.str o]) lX=_:=p1
     wtm_at "W"
     exact q7 _ _ (fin sD sg o' (.inl rfl) G7 p2)
  iterate 2 wtm_at "s"
  by_cases h0:d4=0
  ·rw [show decide (d4=0)=true from decide_eq_true h0]
   wtm_at "W"
   refine Zk w6 (aaX hc qh (by assumption) hlen) (dc rfl) (Bp G6) (Zo _ uw) (O1 NH) (O2 GH) λox lX hox w7 D7=>?_
   iterate 2 wtm_at "s"
   exact tail _ _ _ _ hox (w7.le (aaY)) (uw.dr D7 (by simp)) (E6.dr D7) λo' p9 I=>qG (λi=>([some (.int x),some (.str sx),some (.int wy),some (.str sg),some (.str ox),p9,jk 6]:Sl).getD i none) _ I
  ·rw [show decide (d4=0)=false from decide_eq_false h0]
   iterate 2 wtm_at "s"
   exact tail _ _ _ _ Zq (w6.le (aaZ)) uw E6 λo' p9 I=>qG (λi=>([some (.int x),some (.str sx),some (.int wy),some (.str sg),some (.str sx),p9,jk 6]:Sl).getD i none) _ I
 ·intro jk jh I
  obtain ⟨⟨zh,E2,Cm,l2⟩,w2,kb2⟩:=I
  have r2:jh.reg=0:=kb2.reg.trans hr
  have n2:=kb2.iZ
  rw [<-qy,show kj 2 qR=cut 1 (kj 2 qR) (kj 3 qR) from rfl]
  generalize anD:kj 3 qR=anE
  unfold qR
  dsimp only [kj,cut]
  have tail:∀(jl:AH) (at_:Nat),at_<4->lz jl (c+30)->Kb [1,8] η jl->nO jl zh->WS (40 - (12+0+1)) anE 0 [some (.ref 0 1),some (.ref 0 9),some (.int most),some (.ref 0 js),jk 0,jk 1,jk 2,jk 3,jk 4,jk 5,some (.int at_)] jl (nc λv iY=>v=.none/\∃hl f u,nO iY hl/\uv sp nt pD hl/\hl≠[]/\f∈sp/\iY.get 0 9=some (.sd (jz lb mO (.str f)) u)/\lz iY (c+40)/\Kb [1,8,9] η iY):=by
   intro jl at_ uo w3 A9 E3
   have r3:jl.reg=0:=A9.reg.trans hr
   have hS3:=A9.get js _ (by simp;exact O0 G6) hS
   have Zr:=A9.get 9 _ (dc rfl) h9
   have qx:at_<sp.length:=aa0 NH uo
   have if3:jD tab (.ref 0 js) (.int at_) jl=some (.str sp[at_]):=item_str hS3 (aa1 uo) (aR qx)
   have hf:sp[at_]∈sp:=dj qx
   generalize sp[at_]=f at if3 hf
   rw [<-anD]
   unfold qR
   dsimp only [kj]
   wtm_at "W"
   refine jK (yP Zr (Bq hlb)) ?_
   have tf:Kb [1,8,9] η (jl.set 0 9 (.sd (jz lb mO (.str f)) (ub+1))):=((Kb.refl).trans A9 (by simp)).set (.inl (by simp)) _
   have Dv:(jl.set 0 9 (.sd (jz lb mO (.str f)) (ub+1))).get 0 9=some (.sd (jz lb mO (.str f)) (ub+1)):=AH.kX Zr
   have E4:nO (jl.set 0 9 (.sd (jz lb mO (.str f)) (ub+1))) zh:=E3.mono λo e=>by rw [AH.jP (dc rfl)];exact e
   have w4:lz (jl.set 0 9 (.sd (jz lb mO (.str f)) (ub+1))) (c+30):=by
    refine qY (w3.at_) λg' b' n' hw ur=>?_
    exact ⟨g',b',n',by rw [AH.jP (dc rfl)];exact hw,ur⟩
   revert tf Dv E4 w4
   generalize jl.set 0 9 (.sd (jz lb mO (.str f)) (ub+1))=jH
   intro tf Dv E4 w4
   have r4:jH.reg=0:=tf.reg.trans hr
   have n4:=tf.iZ
   wtm_at "W"
   refine NF (k:=40 - (12+0+1)) (n:=4) r4 (HY hn n4) w4 (aa2 hc) (dc rfl) rfl rfl (dc rfl) (dc rfl) λsg jY uZ w5 D5=>?_
   have ve:=tf.trans D5 (by simp)
   have E5:=E4.kb D5 (by simp)
   have Ba:=D5.get 9 _ (dc rfl) Dv
   obtain ⟨sg,rfl,G7⟩:∃g:Str,sg=.str g/\(g=kh\/g=lO\/g=nj):=by
    simp only [aB,aU,or_false] at uZ
    rcases uZ with h|h|h|h
    ·exact ⟨_,h,.inr (.inl rfl)⟩
    ·exact ⟨_,h,.inr (.inl rfl)⟩
    ·exact ⟨_,h,.inr (.inl rfl)⟩
    ·exact ⟨_,h,.inr (.inr rfl)⟩
   have aqR:jD tab (.ref 0 9) (.str nQ) jY=some (.ref 0 8):=lF Ba (by rw [vC,if_neg (by decide +kernel)];exact Zm)
   have aqS:jD tab (.ref 0 9) (.str mO) jY=some (.str f):=lF Ba (by rw [vC,if_pos rfl])
   refine jL (E5.put (aa3 qh e3 l2) f (sD,sg,f)) λo' p1 p2=>?_
   have p1:mV (.ref 0 8) (.str f) (.tup [.str sD,.str sg,.str f]) jY=_:=p1
   wtm_at "W"
   refine qY (w5.at_) λg' b' n' hw ur=>?_
   refine wc ⟨rfl,_,f,ub+1,p2,Cm.put hf (.inl rfl) G7 hf,?_,hf,by rw [AH.jP (dc rfl)];exact Ba,⟨g',b',n',by rw [AH.jP (dc rfl)];exact hw,by exact aa4 ur⟩,ve.set (.inl (by simp)) _⟩
   intro h
   have:=congrArg gf h
   induction zh using List.casesOn with
  |nil=>cases h
  |cons a t=>
    unfold jz at h
    obtain ⟨a1,a2⟩:=a
    cases hq:sq a1 f<;>rw [hq] at h<;>cases h
  rcases qh with rfl|rfl
  ·wtm_at "W"
   exact tail _ 0 (dc rfl) (w2.le (aa5 e3)) kb2 E2
  ·wtm_at "W"
   refine NF (k:=40 - (12+0+1)) (n:=6) r2 (HY hn n2) w2 (aa6 hc e3) (dc rfl) rfl rfl (dc rfl) (dc rfl) λsg jY uZ w5 D5=>?_
   obtain ⟨at_,rfl,uo⟩:∃i:Nat,sg=.int i/\i<4:=by
    simp only [aB,aU,or_false] at uZ
    rcases uZ with h|h|h|h|h|h
    ·exact ⟨0,h,by decide⟩
    ·exact ⟨0,h,by decide⟩
    ·exact ⟨0,h,by decide⟩
    ·exact ⟨1,h,by decide⟩
    ·exact ⟨2,h,by decide⟩
    ·exact ⟨3,h,by decide⟩
   iterate 1 wtm_at "s"
   exact tail _ at_ uo (w5.le (aa7 e3)) (kb2.trans D5 (by simp)) (E2.kb D5 (by simp))
end
theorem jb.atM(N:Nat){n:Nat}{a:Addr}{as:List PV}{Q:PV->AH->Prop}(w:Nat)(hc:codeOf tab a n=some (nn,ss))(hK:n+w+1<=K)(hm:MK.any (aj · a)=true)(hb:sL tab a vs=some as)
  (hw:let e':=e;let q:=nc λv η=>Q v η.fresh;WS (K - (n+w+1)) ss w e' η q) (he:o6 as N=e:=by (try dsimp only [o6,dU,bq,bW,bN])<;>rfl):jb K (.st (.ref a)) vs η Q:=by
 have:=jb.Kg (k:=K - (n+w+1)) (Q:=Q) (N:=N) w hc hb (by unfold mk;rw [hm];exact he▸hw)
 rw [show K - (n+w+1)+n+w+1=K by exact DP hK] at this
 exact this
def vf(nm nt:Str):Str:=if nm=tX\/(nt=j0/\nm=t4) then nj else kh
def lV(nm nt:Str):List (Str×PV):=[(pH,.ref 0 5),(pI,.ref 0 6),(mz,.ref 0 7),(nQ,.ref 0 8),(nE,.str nm),(kJ,.str nt)]
structure zj(hk:Bool)(al:Nat)(nm nt f:Str)(fl ml:Rows)(hl:pB)(η:AH):Prop where
 Bb:al<4
 names:nm=B6\/nm=t4\/nm=tX
 wg:nt=kg\/nt=j0\/nt=jW\/nt=jX
 first:f∈l0 hk al
 above:∃u,η.get 0 5=some (.sd (kY (oq hk al)) u)
 front:lY η 6 fl
 mixed:lY η 7 ml
 ux:ou hk al fl
 rV:ou hk al ml
 anF:fl.length<=3
 anG:ml.length<=3
 has:nO η hl
 rW:uv (l0 hk al) nt (vf nm nt) hl
 mh:hl≠[]
 bk:∃d u,η.get 0 9=some (.sd d u)/\ja d pH=some (.ref 0 5)/\ja d pI=some (.ref 0 6)/\ja d mz=some (.ref 0 7)/\ja d nQ=some (.ref 0 8)/\ja d nE=some (.str nm)/\ja d kJ=some (.str nt)/\ja d mO=some (.str f)
 bkx:∃js u,η.get 0 9=some (.sd (jz (lV nm nt++[(m9,.ref 0 js)]) mO (.str f)) u)
 well:lz η 60
 reg:η.reg=0
section
theorem Zt(hr:η.reg=0)(h1:1<η.iZ)(w:lz η c)(hc:c<5000)(hk:20<=k){n:Nat}{N:Int}(hN:N=n)(hl:l.length=n)(hn:0<n)(rF:n<1000){Q:PV->AH->Prop}(q:∀v iY,v∈l->lz iY (c+1)->Dr (η.add (.list l)) iY->Q v iY):
  jb k (.st (.ref 1114)) [.ref 0 1,.int N] (η.add (.list l)) λkv iY=>∃v,jD tab (.ref η.reg η.iZ) kv iY=some v/\Q v iY:=by
 subst hN
 refine (rQ (w.ka ((Ke.refl η).add _).ka) (HS hc) (show (0:Int)<(n:Int) by exact Br hn) (OV rF) (by wtm_at "o")).mono λv iY ⟨⟨d,e1,e2,e3⟩,w',D⟩=>?_
 subst e1
 obtain ⟨i,rfl⟩:∃i:Nat,d=i:=⟨d.toNat,by exact wC e2⟩
 have hi:i<l.length:=OW hl e3
 have hL:iY.get 0 η.iZ=some (.list l):=by
  rw [D.get _ _ (OX h1)]
  have:=AH.jF η (.list l)
  rw [hr] at this
  exact this
 rw [hr]
 refine jK (xU hL rfl (OY rF e3) (aR hi)) ?_
 exact q _ iY (dj hi) w' D
theorem anH(hK:10<=K):jb K (.st (.ref 1065)) [] η λv iY=>v=.ref η.reg η.iZ/\iY=η.add (.sd (kY mq) 0):=by
 refine jb.le (k:=10) ?_ hK
 refine jb.at (as:=[]) 0 akW (by wtm_at "o") rfl (by kernel_rfl) ?_;intro _ _
 unfold Wj
 wtm_at "W"
 exact jA ⟨rfl,rfl⟩
theorem anI{r:Nat}{l:List (Str×PV)}(h:η.get r i=some (.sd l u))(hl:l.length<=65536):qk tab (.type "dict") [.ref r i] η=some (.ref η.reg η.iZ,η.add (.sd l 0)):=jC (o:=wK (.ref r i) η) (WW h) (kP (lM hl) rfl)
theorem anJ{nt:Str}(h:nt=j0\/nt=jW\/nt=jX):nt∈l0 hk al:=by
 unfold l0
 refine iW _ ?_
 rcases h with rfl|rfl|rfl<;>decide +kernel
theorem G9{α:Type}{c:Prop}[Decidable c]{x:α}:(if c then [x] else []).length<=1:=by
 split
 ·exact ak 1
 ·exact bx 1
theorem NM:4<=(l0 hk al).length/\(l0 hk al).length<=100:=by
 unfold l0
 rw [aE,aE,aE,aE]
 exact ⟨ah (dc rfl) (bR 9 _),ah (aK (aK (aK (aK G9 G9) G9) G9) (ak 9)) (dc rfl)⟩
theorem anK(nm nt:Str)(v:PV):jz (lV nm nt) m9 v=lV nm nt++[(m9,v)]:=by kernel_rfl
theorem lY.kb{ex:List Nat}(R:lY η i fl)(K:Kb ex η iY)(h:∀e∈ex,e<10/\e≠i):lY iY i fl:=by
 refine ⟨?_,λp hp=>⟨(R.row p hp).1,K.get _ _ (λq=>by have:=h _ q;have:=(R.row p hp).1;exact ac9 (by assumption) this) (R.row p hp).2⟩⟩
 rcases R.at_ with ⟨h1,h2⟩|⟨u,h1⟩
 ·exact .inl ⟨h1,K.get _ _ (λq=>(h _ q).2 rfl) h2⟩
 ·exact .inr ⟨u,K.get _ _ (λq=>(h _ q).2 rfl) h1⟩
theorem anL(hr:η.reg=0)(hn:η.iZ=2)(w:lz η 0){most:Nat}(qh:most=2\/most=5)(hK:100<=K){Q:PV->AH->Prop}(q:∀{ji hk al nm nt f fl ml hl},zj hk al nm nt f fl ml hl ji->Q (.ref 0 9) ji.fresh):
  jb K (.st (.ref 1140)) [.ref 0 1,.int most] η Q:=by
 refine jb.le (k:=100) ?_ hK
 refine jb.atM 4 (as:=[.ref 0 1,.int most]) 0 ak7 (by wtm_at "o") rfl (by kernel_rfl) ?_;intro _ _
 rw [show yN=cut 4 yN (kj 4 yN) from rfl]
 generalize qy:kj 4 yN=rest
 unfold yN
 dsimp only [cut]
 wtm_at "W"
 refine Zt (k:=100 - (10+0+1)) (n:=3) hr (ada hn) w (dc rfl) (dc rfl) rfl rfl (dc rfl) (dc rfl) λnm ji AG w1 D1=>?_
 obtain ⟨nm,rfl,Zu⟩:∃g:Str,nm=.str g/\(g=B6\/g=t4\/g=tX):=by
  simp only [aB,aU,or_false] at AG
  rcases AG with h|h|h
  ·exact ⟨_,h,.inl rfl⟩
  ·exact ⟨_,h,.inr (.inl rfl)⟩
  ·exact ⟨_,h,.inr (.inr rfl)⟩
 have r1:ji.reg=0:=D1.reg.trans hr
 have n1:ji.iZ=3:=by rw [D1.iZ,AH.ny,hn]
 clear D1
 wtm_at "W"
 refine Zt (k:=100 - (10+0+1)) (n:=4) r1 (adb n1) w1 (dc rfl) (dc rfl) rfl rfl (dc rfl) (dc rfl) λnt jh m6 w2 D2=>?_
 obtain ⟨nt,rfl,Dz⟩:∃g:Str,nt=.str g/\(g=kg\/g=j0\/g=jW\/g=jX):=by
  simp only [aB,aU,or_false] at m6
  rcases m6 with h|h|h|h
  ·exact ⟨_,h,.inl rfl⟩
  ·exact ⟨_,h,.inr (.inl rfl)⟩
  ·exact ⟨_,h,.inr (.inr (.inl rfl))⟩
  ·exact ⟨_,h,.inr (.inr (.inr rfl))⟩
 have r2:jh.reg=0:=D2.reg.trans r1
 have n2:jh.iZ=4:=by rw [D2.iZ,AH.ny,n1]
 clear D2
 have tail:∀(jH:AH) (Bc:pB) (x:Option PV) (ub:Nat),jH.reg=0->jH.iZ=10->lz jH 2->jH.get 0 9=some (.sd (lV nm nt) ub)->(∃u,jH.get 0 5=some (.sd (kY mq) u))->jH.get 0 6=some .jm->jH.get 0 7=some .jm->nO jH Bc->((nt=kg/\Bc=[])\/(nt≠kg/\Bc=[(nt,(kJ,vf nm nt,nt))]))->
   WS (100 - (10+0+1)) rest 0 [some (.ref 0 1),some (.int most),some (.str nm),some (.str nt),some (.ref 0 9),x] jH (nc λv η=>Q v η.fresh):=by
  intro jH Bc x ub r4 n4 w4 h9 ⟨u5,h5⟩ h6 h7 E4 hh
  rw [<-qy]
  unfold yN
  dsimp only [kj]
  wtm_at "W"
  refine (anq r4 (ade n4) w4 (dc rfl) h9 (by kernel_rfl) h5 (by wtm_at "o")).mono λv jY lH=>?_
  refine Qf (lH) λhk al j u' lU e1 hj hS w5 ve Nu=>?_
  subst e1
  have Ba:=ve.get 9 _ (dc rfl) h9
  wtm_at "W"
  refine jK (yP Ba (by simp [lV])) ?_
  have uw:Kb [1,5,9] jH (jY.set 0 9 (.sd (jz (lV nm nt) m9 (.ref 0 j)) (ub+1))):=(Kb.refl.trans ve (by simp)).set (.inl (by simp)) _
  have Hf:(jY.set 0 9 (.sd (jz (lV nm nt) m9 (.ref 0 j)) (ub+1))).get 0 9=some (.sd (lV nm nt++[(m9,.ref 0 j)]) (ub+1)):=by
   rw [AH.kX Ba,anK]
  have NP:(jY.set 0 9 (.sd (jz (lV nm nt) m9 (.ref 0 j)) (ub+1))).get 0 j=some (.list (jw (l0 hk al))):=by rw [AH.jP (adf n4 hj)];exact hS
  have Hg:(jY.set 0 9 (.sd (jz (lV nm nt) m9 (.ref 0 j)) (ub+1))).get 0 5=some (.sd (kY (oq hk al)) u'):=by rw [AH.jP (dc rfl)];exact Nu
  have w6:lz (jY.set 0 9 (.sd (jz (lV nm nt) m9 (.ref 0 j)) (ub+1))) 4:=by
   refine qY (w5.at_) λg' b' n' hw ur=>?_
   exact ⟨g',b',n',by rw [AH.jP (dc rfl)];exact hw,ur⟩
  revert uw Hf NP Hg w6
  generalize jY.set 0 9 (.sd (jz (lV nm nt) m9 (.ref 0 j)) (ub+1))=nW
  intro uw Hf NP Hg w6
  have r6:nW.reg=0:=uw.reg.trans r4
  have n6:=uw.iZ
  wtm_at "W"
  refine (anA r6 (Ib n4 n6) Hf (by kernel_rfl) (by kernel_rfl) (by kernel_rfl) lU Hg (uw.get 6 _ (dc rfl) h6) (uw.get 7 _ (dc rfl) h7) w6 (dc rfl) (by wtm_at "o")).mono λv lX qq=>jB qq λe1 qq=>wF qq λfl ml R6 R7 A7 A8 l6 l7 w7 vd=>?_
  subst e1
  have NQ:Kb [1,5,6,7,9] jH lX:=(Kb.refl.trans uw (by simp)).trans vd (by simp)
  have r7:lX.reg=0:=NQ.reg.trans r4
  have NJ:=vd.get 9 _ (dc rfl) Hf
  have hS7:=vd.get j _ (by simp;exact adg n4 hj) NP
  have E7:=E4.kb NQ (dc rfl)
  have okh:uv (l0 hk al) nt (vf nm nt) Bc:=by
   rcases hh with ⟨h1,rfl⟩|⟨h1,rfl⟩
   ·exact ⟨λp h=>(nomatch h),dI,λh=>absurd h1 h⟩
   ·have t8:nt∈l0 hk al:=anJ (Dz.resolve_left h1)
    refine ⟨λp hp=>?_,by simp,λJ=>by simp⟩
    rw [aJ.mp hp]
    exact ⟨t8,.inr ⟨rfl,rfl,rfl,rfl,h1⟩⟩
  have anM:Bc.length<=10:=by rcases hh with ⟨_,rfl⟩|⟨_,rfl⟩<;>simp
  have n7:=NQ.iZ
  refine ⟨rfl,?_⟩
  wtm_at "W"
  refine (anC r7 (Ib n4 n7) NJ (by simp [lV]) (by kernel_rfl) (by kernel_rfl) (js:=j) (Ib n4 hj) hS7 NM.1 NM.2 E7 okh anM w7 (dc rfl) qh (by wtm_at "o")).mono λv wo qq=>jB qq λe1 qq=>aeK qq λhl f u8 E8 ok8 ne8 hf G4 w8 xX=>?_
  subst e1
  refine ⟨rfl,?_⟩
  wtm_at "W"
  refine jA (q ⟨lU,Zu,Dz,hf,⟨u',xX.get 5 _ (dc rfl) (vd.get 5 _ (dc rfl) Hg)⟩,R6.kb xX (dc rfl),R7.kb xX (dc rfl),A7,A8,l6,l7,E8,ok8,ne8,⟨_,_,G4,by kernel_rfl,by kernel_rfl,by kernel_rfl,by kernel_rfl,by kernel_rfl,by kernel_rfl,by kernel_rfl⟩,⟨_,_,G4⟩,w8.le (dc rfl),xX.reg.trans r7⟩)
 wtm_at "W"
 refine (anH (by wtm_at "o")).is1 λiY h2=>?_
 subst h2
 have hA:=AH.jF jh (.sd (kY mq) 0)
 wtm_at "W"
 refine jb.mX (by wtm_at "o") (by intro _ h;cases h) (anI hA (dc rfl)) ?_
 repeat' wtm_at "u"
 unfold Wz
 simp only [AH.nH,AH.ny,r2,n2]
 have e:jz (jz (jz (jz (jz (jz [] pH (.ref 0 (4+1))) pI (.ref 0 (4+1+1))) mz (.ref 0 (4+1+1+1))) nQ (.ref 0 (4+1+1+1+1))) nE (.str nm)) kJ (.str nt)=lV nm nt:=by kernel_rfl
 rw [e]
 have K3:Ke jh ((((((jh.add (.sd (kY mq) 0)).add (.sd (kY mq) 0)).add .jm).add .jm).add .jm).add (.sd (lV nm nt) 0)):=((((((Ke.refl _).add _).add _).add _).add _).add _).add _
 have g5:((((((jh.add (.sd (kY mq) 0)).add (.sd (kY mq) 0)).add .jm).add .jm).add .jm).add (.sd (lV nm nt) 0)).get 0 5=some (.sd (kY mq) 0):=by simp [AH.wJ,AH.ny,AH.nH,r2,n2]
 have g6:((((((jh.add (.sd (kY mq) 0)).add (.sd (kY mq) 0)).add .jm).add .jm).add .jm).add (.sd (lV nm nt) 0)).get 0 6=some .jm:=by simp [AH.wJ,AH.ny,AH.nH,r2,n2]
 have g7:((((((jh.add (.sd (kY mq) 0)).add (.sd (kY mq) 0)).add .jm).add .jm).add .jm).add (.sd (lV nm nt) 0)).get 0 7=some .jm:=by simp [AH.wJ,AH.ny,AH.nH,r2,n2]
 have g8:((((((jh.add (.sd (kY mq) 0)).add (.sd (kY mq) 0)).add .jm).add .jm).add .jm).add (.sd (lV nm nt) 0)).get 0 8=some .jm:=by simp [AH.wJ,AH.ny,AH.nH,r2,n2]
 have g9:((((((jh.add (.sd (kY mq) 0)).add (.sd (kY mq) 0)).add .jm).add .jm).add .jm).add (.sd (lV nm nt) 0)).get 0 9=some (.sd (lV nm nt) 0):=by simp [AH.wJ,AH.ny,AH.nH,r2,n2]
 have gn:((((((jh.add (.sd (kY mq) 0)).add (.sd (kY mq) 0)).add .jm).add .jm).add .jm).add (.sd (lV nm nt) 0)).iZ=10:=by simp [AH.ny,n2]
 revert K3 g5 g6 g7 g8 g9 gn
 generalize ((((((jh.add (.sd (kY mq) 0)).add (.sd (kY mq) 0)).add .jm).add .jm).add .jm).add (.sd (lV nm nt) 0))=jH
 intro K3 g5 g6 g7 g8 g9 gn
 have r4:jH.reg=0:=K3.reg.trans r2
 have w4:=w2.ka K3.ka
 wtm_at "W"
 have ih:jD tab (.ref 0 9) (.str nQ) jH=some (.ref 0 8):=lF g9 (by kernel_rfl)
 by_cases DB:nt=kg
 ·have:sq nt kg=true:=jS.mpr DB
  rw [this]
  wtm_at "W"
  exact tail _ [] _ 0 r4 gn w4 g9 ⟨_,g5⟩ g6 g7 (.inl ⟨rfl,g8⟩) (.inl ⟨DB,rfl⟩)
 ·have:sq nt kg=false:=by
   induction h:sq nt kg using Bool.casesOn with
  |false=>rfl
  |true=>exact absurd (jS.mp h) DB
  rw [this]
  have go:∀(x:Option PV) (g:Str),g=vf nm nt->WS (100 - (10+0+1)) rest 0 [some (.ref 0 1),some (.int most),some (.str nm),some (.str nt),some (.ref 0 9),x] (jH.set 0 8 (.sd [(nt,.tup [.str kJ,.str g,.str nt])] 0)) (nc λv η=>Q v η.fresh):=by
   intro x g hg
   refine qY (w4.at_) λg' b' n' hw ur=>?_
   refine tail _ [(nt,(kJ,vf nm nt,nt))] _ 0 (by rw [AH.yO];exact r4) (by rw [AH.Al];exact gn) ⟨g',b',n',by rw [AH.jP (dc rfl)];exact hw,ur⟩ (by rw [AH.jP (dc rfl)];exact g9) ⟨0,by rw [AH.jP (dc rfl)];exact g5⟩ (by rw [AH.jP (dc rfl)];exact g6) (by rw [AH.jP (dc rfl)];exact g7) (.inr ⟨0,?_⟩) (.inr ⟨DB,rfl⟩)
   rw [AH.kX g8,hg]
   rfl
  have pt:∀g:Str,mV (.ref 0 8) (.str nt) (.tup [.str kJ,.str g,.str nt]) jH=some (jH.set 0 8 (.sd [(nt,.tup [.str kJ,.str g,.str nt])] 0)):=λg=>by
   exact Am g8
  have p1:=pt nj
  have p2:=pt kh
  clear pt
  rcases Zu with rfl|rfl|rfl
  ·wtm_at "W"
   exact go _ _ (by rcases Dz with rfl|rfl|rfl|rfl<;>decide +kernel)
  ·rcases Dz with rfl|rfl|rfl|rfl
   ·exact absurd rfl DB
   ·wtm_at "W"
    exact go _ _ (by decide +kernel)
   ·wtm_at "W"
    exact go _ _ (by decide +kernel)
   ·wtm_at "W"
    exact go _ _ (by decide +kernel)
  ·wtm_at "W"
   exact go _ _ (by rcases Dz with rfl|rfl|rfl|rfl<;>decide +kernel)
end
set_option backward.match.sparseCases true
set_option genCtorIdx false in
structure MI where
 j8:Nat
 num:Int
 cls:Bool
 jt:Option Str
 mS:Bool
 own:Option Str
 owner:Str
 nat:Option Str
 mY:Nat
 mU:Nat
 ku:Nat
 depth:Nat
 rank:Nat
noncomputable def rf(b i:Nat):PV:=cond (aj i 0) .none (.ref 1 (b+i))
noncomputable def op:Option Str->PV
|none=>.none
|some s=>.str s
def mo(b a n ow own:Nat)(nm:Option Str)(c:Bool)(p mx at':Nat)(nt:Option Str)(L:List AO):List AO:=.inst 226 [(mC,.int n),(lK,rf b ow),(zM,rf b (a+1)),(nF,rf b own),(zN,.bool false),(zP,.none),(nE,op nm),(ry,.bool c),(qN,rf b p),(zQ,.none),(qM,rf b (a+2)),(EH,rf b (a+3)),(mz,rf b mx),(sy,rf b (a+5)),(uI,rf b at'),(kJ,op nt),(ni,.none)]::.jm::.jm::.jm::.list []::.list []::L
noncomputable def oc(o:AO)(L:List AO):List AO:=o::L
def th(b a n ow own:Nat)(L:List AO):List AO:=.inst 38 [(mC,.int n),(lK,rf b ow),(zM,rf b (a+1)),(nF,rf b own),(zN,.bool false),(zP,.none)]::.jm::L
def dM(b:Nat)(L:List (Str×PV))(u:Nat):AO:=.sd ((kE,rf b 7)::(j0,rf b 35)::(jW,rf b 48)::(jX,rf b 69)::(jG,rf b 76)::(ju,rf b 82)::(lB,rf b 88)::(jN,rf b 94)::(lg,rf b 100)::L) u
def dP(b:Nat):AO:=.sd [(kE,rf b 7),(mL,rf b 13),(jE,rf b 19),(lJ,rf b 25),(j0,rf b 35),(jW,rf b 48),(qt,rf b 54),(qo,rf b 61),(jX,rf b 69)] 8
def dN(b:Nat):AO:=.sd [(tW,.int 5),(uM,.none),(mL,rf b 13),(lN,rf b 107),(qu,rf b 109),(pn,rf b 111),(pY,rf b 113),(ju,rf b 82),(jG,rf b 76),(lB,rf b 88),(jN,rf b 94)] 8
def h1(b:Nat)(p0:PV)(p1:PV)(p2:AO)(p3:Nat)(p4:Nat)(L:List AO):List AO:=oc (.inst 1054 [(vV,(.ref 1 b)),(vW,(rf b 2)),(EP,.none),(Jy,(.int 20000)),(JB,(.int 0)),(BZ,p0),(Jw,(.int 8)),(JA,(rf b 3)),(tZ,(rf b 4)),(sE,p1),(Js,(.int 0)),(Ju,(rf b 5)),(Jz,(rf b 6)),(Jv,.none),(BX,(.bool true)),(Jx,(rf b 42))]) <|
 oc .jm <|
 oc .jm <|
 oc p2 <|
 oc .jm <|
 oc (.list []) <|
 mo b 7 2 19 p3 (some kE) true 13 34 0 (some kE) <|
 mo b 13 3 19 p4 (some mL) true 0 33 0 (some mL) <|
 mo b 19 4 19 0 (some jE) true 25 32 0 (some jE) <|
 mo b 25 5 19 0 (some lJ) true 7 31 0 (some lJ) <|
 oc (.list []) <|
 oc (.list []) <|
 oc (.list []) <|
 oc (.list [(rf b 35)]) <|
 mo b 35 6 25 0 (some j0) false 0 41 0 (some j0) <|
 oc (.list []) <|
 th b 42 1 7 0 <|
 oc (.list [(.str kE),(.str mL),(.str jE),(.str lJ),(.str j0)]) L
def h2(b:Nat)(p0:AO)(p1:AO)(L:List AO):List AO:=oc p0 <|
 oc p1 <|
 oc (.list [(.str kE),(.str j0),(.str jW),(.str jX)]) <|
 mo b 48 7 19 0 (some jW) true 54 68 0 (some jW) <|
 mo b 54 8 19 0 (some qt) true 7 60 0 (some qt) <|
 oc (.list [(rf b 61)]) <|
 mo b 61 9 25 0 (some qo) false 0 67 0 (some qo) <|
 oc (.list []) <|
 oc (.list []) <|
 mo b 69 10 19 0 (some jX) true 7 75 0 (some jX) <|
 oc (.list []) L
def h3(b:Nat)(p0:Nat)(p1:Nat)(p2:Nat)(p3:Nat)(L:List AO):List AO:=mo b 76 11 19 p0 (some jG) true 7 80 0 none <|
 mo b 82 12 19 p1 (some ju) true 76 86 0 none <|
 mo b 88 13 19 0 (some lB) true 76 92 0 none <|
 mo b 94 14 25 p2 (some jN) false 0 98 0 none <|
 mo b 100 15 25 0 (some lg) false 0 104 0 none <|
 oc (.list [(.tup [(.str lN),(.str ju)]),(.tup [(.str qu),(.str ju)]),(.tup [(.str pn),(.str jG)]),(.tup [(.str pY),(.str lB)])]) <|
 th b 107 16 82 p3 <|
 th b 109 17 82 0 <|
 th b 111 18 76 0 <|
 th b 113 19 88 0 <|
 oc (.list [(.str ju),(.str jG),(.str lB),(.str jN)]) L
def hW(b:Nat):List AO:=h1 b (.int 6) (.int 0) (.sd [(kE,(rf b 7)),(mL,(rf b 13)),(jE,(rf b 19)),(lJ,(rf b 25)),(j0,(rf b 35))] 4) 0 0 []
def hA(b:Nat):List AO:=h1 b (.int 10) (.int 0) (dP b) 0 0 <|
 h2 b (.sd [(kE,(rf b 7)),(j0,(rf b 35)),(jW,(rf b 48)),(jX,(rf b 69))] 3) (.sd [(tW,(.int 5)),(uM,.none),(mL,(rf b 13))] 0) []
def hB(b:Nat):List AO:=h1 b (.int 19) (.int 0) (dP b) 0 0 <|
 h2 b (dM b [] 8) (dN b) <|
 h3 b 0 0 0 0 []
def anN(b:Nat):List AO:=h1 b (.int 23) (.int 4) (dP b) 124 118 <|
 h2 b (dM b [(lu,(rf b 136)),(jT,(rf b 130))] 10) (dN b) <|
 h3 b 130 136 0 0 <|
 oc (.list [(.str lN),(.str ju),(.str jG),(.str jN)]) <|
 oc (.list [(rf b 82),(rf b 76),(rf b 7),(rf b 13)]) <|
 mo b 118 20 19 0 none true 19 122 13 (some wU) <|
 mo b 124 21 19 0 none true 118 128 7 (some wV) <|
 mo b 130 22 19 0 none true 124 134 76 none <|
 mo b 136 23 19 0 none true 130 140 82 none <|
 oc (.list []) []
def anO(b:Nat):List AO:=h1 b (.int 22) (.int 3) (dP b) 124 118 <|
 h2 b (dM b [(jT,(rf b 130))] 9) (dN b) <|
 h3 b 130 0 0 0 <|
 oc (.list [(.str lN),(.str ju),(.str jG),(.str jN)]) <|
 oc (.list [(rf b 76),(rf b 7),(rf b 13)]) <|
 mo b 118 20 19 0 none true 19 122 13 (some wU) <|
 mo b 124 21 19 0 none true 118 128 7 (some wV) <|
 mo b 130 22 19 0 none true 124 134 76 none []
def anP(b:Nat):List AO:=h1 b (.int 20) (.int 1) (dP b) 0 0 <|
 h2 b (dM b [(m7,(rf b 118))] 9) (dN b) <|
 h3 b 0 0 118 0 <|
 oc (.list [(.str lN),(.str ju),(.str jG),(.str jN)]) <|
 oc (.list [(rf b 94)]) <|
 mo b 118 20 19 0 none true 25 122 94 none []
def anQ(b:Nat):List AO:=h1 b (.int 19) (.int 0) (dP b) 0 0 <|
 h2 b (dM b [] 8) (dN b) <|
 h3 b 0 0 0 0 <|
 oc (.list [(.str lN),(.str ju),(.str jG),(.str jN)]) []
def anR(b:Nat):List AO:=h1 b (.int 24) (.int 5) (dP b) 131 125 <|
 h2 b (dM b [(j6,(rf b 118)),(lu,(rf b 143)),(jT,(rf b 137))] 11) (dN b) <|
 h3 b 137 143 0 118 <|
 oc (.list [(.str lN),(.str ju),(.str jG),(.str jN)]) <|
 oc (.list [(rf b 107)]) <|
 mo b 118 20 19 0 none true 82 122 107 none <|
 oc (.list [(rf b 82),(rf b 76),(rf b 7),(rf b 13)]) <|
 mo b 125 21 19 0 none true 19 129 13 (some wU) <|
 mo b 131 22 19 0 none true 125 135 7 (some wV) <|
 mo b 137 23 19 0 none true 131 141 76 none <|
 mo b 143 24 19 0 none true 137 147 82 none <|
 oc (.list []) []
def anS(b:Nat):List AO:=h1 b (.int 23) (.int 4) (dP b) 131 125 <|
 h2 b (dM b [(j6,(rf b 118)),(jT,(rf b 137))] 10) (dN b) <|
 h3 b 137 0 0 118 <|
 oc (.list [(.str lN),(.str ju),(.str jG),(.str jN)]) <|
 oc (.list [(rf b 107)]) <|
 mo b 118 20 19 0 none true 82 122 107 none <|
 oc (.list [(rf b 76),(rf b 7),(rf b 13)]) <|
 mo b 125 21 19 0 none true 19 129 13 (some wU) <|
 mo b 131 22 19 0 none true 125 135 7 (some wV) <|
 mo b 137 23 19 0 none true 131 141 76 none []
def anT(b:Nat):List AO:=h1 b (.int 21) (.int 2) (dP b) 0 0 <|
 h2 b (dM b [(j6,(rf b 118)),(m7,(rf b 125))] 10) (dN b) <|
 h3 b 0 0 125 118 <|
 oc (.list [(.str lN),(.str ju),(.str jG),(.str jN)]) <|
 oc (.list [(rf b 107)]) <|
 mo b 118 20 19 0 none true 82 122 107 none <|
 oc (.list [(rf b 94)]) <|
 mo b 125 21 19 0 none true 25 129 94 none []
def anU(b:Nat):List AO:=h1 b (.int 20) (.int 1) (dP b) 0 0 <|
 h2 b (dM b [(j6,(rf b 118))] 9) (dN b) <|
 h3 b 0 0 0 118 <|
 oc (.list [(.str lN),(.str ju),(.str jG),(.str jN)]) <|
 oc (.list [(rf b 107)]) <|
 mo b 118 20 19 0 none true 82 122 107 none []
def mi(x:Str)(a:Nat)(n:Int)(c:Bool)(p:Option Str)(t:Bool)(w:Option Str)(u:Str)(v:Option Str)(m d r:Nat)(L:List (Str×MI)):List (Str×MI):=(x,⟨a,n,c,p,t,w,u,v,a+5,m,a+2,d,r⟩)::L
def t1(p0:Option Str)(p1:Option Str)(p2:Option Str)(p3:Option Str)(p4:Option Str)(L:List (Str×MI)):List (Str×MI):=mi kE 7 2 true (some mL) false p0 jE (some kE) 34 1 2 <|
 mi mL 13 3 true none false p1 jE (some mL) 33 0 2 <|
 mi jE 19 4 true (some lJ) false none jE (some jE) 32 3 2 <|
 mi lJ 25 5 true (some kE) false none jE (some lJ) 31 2 2 <|
 mi j0 35 6 false none false none lJ (some j0) 41 0 0 <|
 mi jW 48 7 true (some qt) false none jE (some jW) 68 3 2 <|
 mi qt 54 8 true (some kE) false none jE (some qt) 60 2 2 <|
 mi qo 61 9 false none false none lJ (some qo) 67 0 0 <|
 mi jX 69 10 true (some kE) false none jE (some jX) 75 2 2 <|
 mi jG 76 11 true (some kE) false p2 jE none 80 2 2 <|
 mi ju 82 12 true (some jG) false p3 jE none 86 3 2 <|
 mi lB 88 13 true (some jG) false none jE none 92 3 2 <|
 mi jN 94 14 false none false p4 lJ none 98 0 1 <|
 mi lg 100 15 false none false none lJ none 104 0 0 <| L
def anV:List (Str×MI):=t1 (some mR) (some mw) (some jT) (some lu) none <|
 mi mw 118 20 true (some jE) true none jE (some wU) 122 4 2 <|
 mi mR 124 21 true (some mw) true none jE (some wV) 128 5 2 <|
 mi jT 130 22 true (some mR) true none jE none 134 6 2 <|
 mi lu 136 23 true (some jT) true none jE none 140 7 2 <| []
def anW:List (Str×MI):=t1 (some mR) (some mw) (some jT) none none <|
 mi mw 118 20 true (some jE) true none jE (some wU) 122 4 2 <|
 mi mR 124 21 true (some mw) true none jE (some wV) 128 5 2 <|
 mi jT 130 22 true (some mR) true none jE none 134 6 2 <| []
def anY:List (Str×MI):=t1 none none none none (some m7) <|
 mi m7 118 20 true (some lJ) true none jE none 122 3 2 <| []
def anZ:List (Str×MI):=t1 none none none none none <| []
def an0:List (Str×MI):=t1 (some mR) (some mw) (some jT) (some lu) none <|
 mi j6 118 20 true (some ju) true none jE none 122 4 2 <|
 mi mw 125 21 true (some jE) true none jE (some wU) 129 4 2 <|
 mi mR 131 22 true (some mw) true none jE (some wV) 135 5 2 <|
 mi jT 137 23 true (some mR) true none jE none 141 6 2 <|
 mi lu 143 24 true (some jT) true none jE none 147 7 2 <| []
def an1:List (Str×MI):=t1 (some mR) (some mw) (some jT) none none <|
 mi j6 118 20 true (some ju) true none jE none 122 4 2 <|
 mi mw 125 21 true (some jE) true none jE (some wU) 129 4 2 <|
 mi mR 131 22 true (some mw) true none jE (some wV) 135 5 2 <|
 mi jT 137 23 true (some mR) true none jE none 141 6 2 <| []
def an2:List (Str×MI):=t1 none none none none (some m7) <|
 mi j6 118 20 true (some ju) true none jE none 122 4 2 <|
 mi m7 125 21 true (some lJ) true none jE none 129 3 2 <| []
def an3:List (Str×MI):=t1 none none none none none <|
 mi j6 118 20 true (some ju) true none jE none 122 4 2 <| []
def hM(hk:Bool)(al:Nat)(b:Nat):List AO:=if hk then (if al=0 then anR b else if al=1 then anS b else if al=2 then anT b else anU b) else (if al=0 then anN b else if al=1 then anO b else if al=2 then anP b else anQ b)
def tM(hk:Bool)(al:Nat):List (Str×MI):=if hk then (if al=0 then an0 else if al=1 then an1 else if al=2 then an2 else an3) else (if al=0 then anV else if al=1 then anW else if al=2 then anY else anZ)
def oz(nm nt:Str):List AO:=if nt=kg then [.jm] else [.sd [(nm,.tup [.none,.int 0,.int 0])] 0,.sd [(nt,.ref 1 0)] 0]
def lq(nt:Str):Nat:=if nt=kg then 0 else 1
def cT:List (Addr×xr):=[(35,⟨7,0,Vv⟩),(216,⟨13,0,Vx⟩),(265,⟨8,0,LK⟩),(377,⟨2,0,VM⟩),(384,⟨9,2,VN⟩),(391,⟨6,0,VP⟩),(398,⟨9,2,VQ⟩),(793,⟨21,1,V9⟩),(814,⟨4,0,Wa⟩),(835,⟨6,1,LP⟩),(840,⟨12,3,Wc⟩),(847,⟨6,0,Wf⟩),(855,⟨9,3,Wg⟩),(223,⟨4,0,LJ⟩),(862,⟨8,0,LQ⟩)]
theorem qI{a m nn:Nat}{ss:jn}{T:List (Addr×xr)}(h:codeOf tab a m=some (nn,ss))(ih:∀{x c},jv T x=some c->codeOf tab x c.m=some (c.nn,c.ss)){x:Nat}{c:xr}(e:jv ((a,⟨m,nn,ss⟩)::T) x=some c):codeOf tab x c.m=some (c.nn,c.ss):=
 mE (show cond (aj a x) (some _) (jv T x)=some c from e) (λz e=>by rw [<-ai e,<-aP z];exact h) λJ e=>ih e
theorem an4{x:Nat}{c:xr}(e:jv ([]:List (Addr×xr)) x=some c):codeOf tab x c.m=some (c.nn,c.ss):=xn e
theorem Zv{x:Nat}{c:xr}(e:jv cT x=some c):codeOf tab x c.m=some (c.nn,c.ss):=qI akl (qI akm (qI VB (qI akz (qI akA (qI akB (qI akC (qI akO (qI akP (qI Wb (qI akQ (qI akR (qI akS (qI Vy (qI Wh an4)))))))))))))) e
theorem an5(L:List AO)(nm:Str):rC cT 14 250 (.st (.ref 1054)) [.ref 1 0] ⟨[L],[.jm]⟩=some (.ref 1 1,⟨[L],[.jm]++hW 0⟩):=by kernel_rfl
theorem an6(L:List AO)(nm:Str):rC cT 14 250 (.st (.ref 1054)) [.ref 1 1] ⟨[L],[.sd [(nm,.tup [.none,.int 0,.int 0])] 0,.sd [(j0,.ref 1 0)] 0]⟩=some (.ref 1 2,⟨[L],[.sd [(nm,.tup [.none,.int 0,.int 0])] 0,.sd [(j0,.ref 1 0)] 0]++hW 1⟩):=by kernel_rfl
theorem an7(L:List AO)(nm:Str):rC cT 14 250 (.st (.ref 1054)) [.ref 1 1] ⟨[L],[.sd [(nm,.tup [.none,.int 0,.int 0])] 0,.sd [(jW,.ref 1 0)] 0]⟩=some (.ref 1 2,⟨[L],[.sd [(nm,.tup [.none,.int 0,.int 0])] 0,.sd [(jW,.ref 1 0)] 0]++hW 1⟩):=by kernel_rfl
theorem an8(L:List AO)(nm:Str):rC cT 14 250 (.st (.ref 1054)) [.ref 1 1] ⟨[L],[.sd [(nm,.tup [.none,.int 0,.int 0])] 0,.sd [(jX,.ref 1 0)] 0]⟩=some (.ref 1 2,⟨[L],[.sd [(nm,.tup [.none,.int 0,.int 0])] 0,.sd [(jX,.ref 1 0)] 0]++hW 1⟩):=by kernel_rfl
noncomputable abbrev Be(b:Nat):Sl:=[some (.ref 1 (b+1)),some (.ref 0 9),none,none,none,none,none,none,none,none,none,none,none,none]
abbrev vg(nm:Str)(b:Nat):Sl:=[some (.ref 1 (b+1)),some (.ref 0 9),some (.ref 1 (b+45)),some (.ref 1 (b+46)),some (.str nm),some (.str jX),none,none,none,none,none,none,none,none]
abbrev uy(nm:Str)(b:Nat):Sl:=[some (.ref 1 (b+1)),some (.ref 0 9),some (.ref 1 (b+45)),some (.ref 1 (b+46)),some (.str nm),some (.str jN),some (.str pY),none,none,none,none,none,none,none]
abbrev fM:Rx:=rX (rC cT 16 181) 15
theorem an9(x0 x1 x2 x3 x4 x5 x6 x7 x8:AO)(R:List AO)(u9 js:Nat)(nm f:Str):rN fM 2 pO (Be 0) ⟨[x0::x1::x2::x3::x4::x5::x6::x7::x8::.sd (jz (lV nm kg++[(m9,.ref 0 js)]) mO (.str f)) u9::R],[.jm]++hW 0⟩=some (vg nm 0,⟨[x0::x1::x2::x3::x4::x5::x6::x7::x8::.sd (jz (lV nm kg++[(m9,.ref 0 js)]) mO (.str f)) u9::R],[.jm]++hA 0⟩):=by kernel_rfl
theorem aoa(x0 x1 x2 x3 x4 x5 x6 x7 x8:AO)(R:List AO)(u9 js:Nat)(nm f:Str):rN fM 2 pO (Be 1) ⟨[x0::x1::x2::x3::x4::x5::x6::x7::x8::.sd (jz (lV nm j0++[(m9,.ref 0 js)]) mO (.str f)) u9::R],[.sd [(nm,.tup [.none,.int 0,.int 0])] 0,.sd [(j0,.ref 1 0)] 0]++hW 1⟩=some (vg nm 1,⟨[x0::x1::x2::x3::x4::x5::x6::x7::x8::.sd (jz (lV nm j0++[(m9,.ref 0 js)]) mO (.str f)) u9::R],[.sd [(nm,.tup [.none,.int 0,.int 0])] 0,.sd [(j0,.ref 1 0)] 0]++hA 1⟩):=by kernel_rfl
theorem aob(x0 x1 x2 x3 x4 x5 x6 x7 x8:AO)(R:List AO)(u9 js:Nat)(nm f:Str):rN fM 2 pO (Be 1) ⟨[x0::x1::x2::x3::x4::x5::x6::x7::x8::.sd (jz (lV nm jW++[(m9,.ref 0 js)]) mO (.str f)) u9::R],[.sd [(nm,.tup [.none,.int 0,.int 0])] 0,.sd [(jW,.ref 1 0)] 0]++hW 1⟩=some (vg nm 1,⟨[x0::x1::x2::x3::x4::x5::x6::x7::x8::.sd (jz (lV nm jW++[(m9,.ref 0 js)]) mO (.str f)) u9::R],[.sd [(nm,.tup [.none,.int 0,.int 0])] 0,.sd [(jW,.ref 1 0)] 0]++hA 1⟩):=by kernel_rfl
theorem aoc(x0 x1 x2 x3 x4 x5 x6 x7 x8:AO)(R:List AO)(u9 js:Nat)(nm f:Str):rN fM 2 pO (Be 1) ⟨[x0::x1::x2::x3::x4::x5::x6::x7::x8::.sd (jz (lV nm jX++[(m9,.ref 0 js)]) mO (.str f)) u9::R],[.sd [(nm,.tup [.none,.int 0,.int 0])] 0,.sd [(jX,.ref 1 0)] 0]++hW 1⟩=some (vg nm 1,⟨[x0::x1::x2::x3::x4::x5::x6::x7::x8::.sd (jz (lV nm jX++[(m9,.ref 0 js)]) mO (.str f)) u9::R],[.sd [(nm,.tup [.none,.int 0,.int 0])] 0,.sd [(jX,.ref 1 0)] 0]++hA 1⟩):=by kernel_rfl
theorem aod(L:List AO)(y0 y1:AO)(nm:Str):rN fM 6 (kj 2 pO) (vg nm 0) ⟨[L],[y0]++hA 0⟩=some (uy nm 0,⟨[L],[y0]++hB 0⟩):=by kernel_rfl
theorem NS(L:List AO)(y0 y1:AO)(nm:Str):rN fM 6 (kj 2 pO) (vg nm 1) ⟨[L],[y0,y1]++hA 1⟩=some (uy nm 1,⟨[L],[y0,y1]++hB 1⟩):=by kernel_rfl
def pU(hk:Bool)(al bb:Nat):Prop:=∀(x0 x1 x2 x3 x4 x6 x7 x8 y0 y1:AO) (R:List AO) (u5 u9 js:Nat) (nm nt f:Str),rN fM 1 (kj 8 pO) (uy nm bb) ⟨[x0::x1::x2::x3::x4::.sd (kY (oq hk al)) u5::x6::x7::x8::.sd (jz (lV nm nt++[(m9,.ref 0 js)]) mO (.str f)) u9::R],y0::cond (aj bb 0) (hB bb) (y1::hB bb)⟩=some (uy nm bb,⟨[x0::x1::x2::x3::x4::.sd (kY (oq hk al)) u5::x6::x7::x8::.sd (jz (lV nm nt++[(m9,.ref 0 js)]) mO (.str f)) u9::R],y0::cond (aj bb 0) (hM hk al bb) (y1::hM hk al bb)⟩)
theorem aoe:pU false 0 0:=λJ J J J J J J J J J J J J J J J J=>by kernel_rfl
theorem aof:pU false 0 1:=λJ J J J J J J J J J J J J J J J J=>by kernel_rfl
theorem aog:pU false 1 0:=λJ J J J J J J J J J J J J J J J J=>by kernel_rfl
theorem aoh:pU false 1 1:=λJ J J J J J J J J J J J J J J J J=>by kernel_rfl
theorem aoi:pU false 2 0:=λJ J J J J J J J J J J J J J J J J=>by kernel_rfl
theorem aoj:pU false 2 1:=λJ J J J J J J J J J J J J J J J J=>by kernel_rfl
theorem aok:pU false 3 0:=λJ J J J J J J J J J J J J J J J J=>by kernel_rfl
theorem aol:pU false 3 1:=λJ J J J J J J J J J J J J J J J J=>by kernel_rfl
theorem aom:pU true 0 0:=λJ J J J J J J J J J J J J J J J J=>by kernel_rfl
theorem aon:pU true 0 1:=λJ J J J J J J J J J J J J J J J J=>by kernel_rfl
theorem aoo:pU true 1 0:=λJ J J J J J J J J J J J J J J J J=>by kernel_rfl
theorem aop:pU true 1 1:=λJ J J J J J J J J J J J J J J J J=>by kernel_rfl
theorem aoq:pU true 2 0:=λJ J J J J J J J J J J J J J J J J=>by kernel_rfl
theorem aor:pU true 2 1:=λJ J J J J J J J J J J J J J J J J=>by kernel_rfl
theorem aos:pU true 3 0:=λJ J J J J J J J J J J J J J J J J=>by kernel_rfl
theorem aot:pU true 3 1:=λJ J J J J J J J J J J J J J J J J=>by kernel_rfl
theorem Hh{al b:Nat}(hk:Bool)(ha:al<4)(hb:b=0\/b=1):pU hk al b:=by
 rcases (by exact DL ha:al=0\/al=1\/al=2\/al=3) with rfl|rfl|rfl|rfl<;>cases hk<;>rcases hb with rfl|rfl
 exact aoe
 exact aof
 exact aom
 exact aon
 exact aog
 exact aoh
 exact aoo
 exact aop
 exact aoi
 exact aoj
 exact aoq
 exact aor
 exact aok
 exact aol
 exact aos
 exact aot
set_option backward.match.sparseCases false
section
section
variable{w:Nat}{b:jn}
theorem Zw{ι:Type}{keys:List Str}{r:Nat}(ho:(keys=[]/\o=.jm)\/∃d u,o=.sd d u/\d.map az=keys)(hl:keys.length<=65536){Q:QS}(E:ι->Sl)(Inv:List Str->ι->AH->Prop)(x0:ι)(he:e=E x0)
  (hI:∀d x η,Inv d x η->η.get r i=some o) (h0:Inv [] x0 η)
  (step:∀d a t x η,keys=d++a::t->Inv d x η->∀G:Sl->AH->Prop,(∀x η,Inv (d++[a]) x η->G (E x) η)->∃e',tg.bind (.str a) (E x)=some e'/\WS k b w e' η (Aw Q G))
  (fin:∀x η,Inv keys x η->let e1:=E x;Q .next e1 η):∃S,ro false (.ref r i) η=some S/\oO (λe η Q=>WS k b w e η Q) tg S (S.len η+1) 0 e η Q:=by
 have go:∀{S:Src},ro false (.ref r i) η=some S->keys.length<=S.len η->(∀d t η,keys=d++t->η.get r i=some o->S.at d.length η=some (t.head?.map .str))->∃S,ro false (.ref r i) η=some S/\oO (λe η Q=>WS k b w e η Q) tg S (S.len η+1) 0 e η Q:=λ{S} h1 h2 h3=>
  ⟨S,h1,FZ (f:=.str) (all:=keys) (Inv:=λd e η=>∃x,e=E x/\Inv d x η) (λd t e η ha h=>h.elim λx h=>h3 d t η ha (hI d x η h.2)) (λd a t e η ha h G q=>h.elim λx h=>h.1▸step d a t x η ha h.2 G λx η I=>q _ _ ⟨x,rfl,I⟩) (λe η h=>h.elim λx h=>h.1▸fin x η h.2) [] _ e η rfl (cg h2) ⟨x0,he,h0⟩⟩
 have g0:=hI _ _ _ h0
 refine ho.elim (λz=>?_) λz=>z.elim λd z=>z.elim λu z=>?_
 ·rw [z.2] at g0
  refine go (S:=.nil r i) (jC g0 rfl) (by rw [z.1];exact ak _) λd t η ha h=>?_
  rw [z.1] at ha
  rw [(List.append_eq_nil_iff.mp ha.symm).2]
  exact jC (h.trans (congrArg some z.2)) rfl
 ·rw [z.1] at g0
  have ln:d.length=keys.length:=by rw [<-z.2,aC]
  refine go (S:=.keys r i u d.length) (jC g0 (kP (lM (ln▸hl)) rfl)) (aq ln.symm) λdn t η ha h=>?_
  refine jC (WV (h.trans (congrArg some z.1))) (kP (sP (bZ u) (bZ d.length)) (congrArg some ?_))
  have:(d[dn.length]?.map λp:Str×PV=>PV.str p.1)=((d.map az)[dn.length]?).map PV.str:=by
   rw [cQ,Option.map_map];rfl
  rw [this,z.2,<-cQ]
  exact L5 ha
end
structure Kn(ex:Nat->Prop)(η iY:AH):Prop where
 reg:iY.reg=η.reg
 iZ:η.iZ<=iY.iZ
 get:∀r i o,¬ (r=1/\ex i)->η.get r i=some o->iY.get r i=some o
section
variable{ex:Nat->Prop}
theorem Kn.refl:Kn ex η η:=⟨rfl,ak _,λJ J J J h=>h⟩
theorem Kn.ke(h:Kn ex η iY)(k:Ke iY jh):Kn ex η jh:=⟨k.reg.trans h.reg,ah h.iZ k.iZ,λr i o hn e=>k.get _ _ _ (h.get r i o hn e)⟩
theorem Kn.set(h:Kn ex η iY)(hi:ex i)(o:AO):Kn ex η (iY.set 1 i o):=⟨by rw [AH.yO,h.reg],by rw [AH.Al];exact h.iZ,λr j o' hn e=>by
 rw [AH.jP (by rintro ⟨rfl,rfl⟩;exact hn ⟨rfl,hi⟩)];exact h.get r j o' hn e⟩
end
set_option genCtorIdx false in
structure Ad where
 ad:Str->Nat
 af:Str->Nat
 am:Str->Nat
 ae:Str->Nat
noncomputable def Ad.m(A:Ad)(x:Str):PV:=.ref 1 (A.ad x)
structure Wd(A:Ad)(sp:List Str)(md:Nat)(η:AH):Prop where
 xZ:∃l u,η.get 1 md=some (.sd l u)/\∀x∈sp,ja l x=some (A.m x)
 inst:∀x∈sp,∃fs,η.get 1 (A.ad x)=some (.inst 226 fs)/\ja fs sy=some (.ref 1 (A.af x))/\ja fs mz=some (.ref 1 (A.am x))/\ja fs qM=some (.ref 1 (A.ae x))
section
variable{A:Ad}{sp:List Str}{md:Nat}
theorem Wd.kn{ex:Nat->Prop}(W:Wd A sp md η)(K:Kn ex η iY)(h1:¬ ex md)(h2:∀x∈sp,¬ ex (A.ad x)):Wd A sp md iY:=by
 refine nY (W.xZ) λl u a b=>?_
 refine ⟨⟨l,u,K.get _ _ _ (λh=>h1 h.2) a,b⟩,λx hx=>?_⟩
 refine jL (W.inst x hx) λfs a b=>?_
 exact ⟨fs,K.get _ _ _ (λh=>h2 x hx h.2) a,b⟩
theorem aou(V:Wd A sp md η)(mj:η.reg=1){row:List Str}(NT:∀x∈row,x∈sp)(hl:row.length<=100)(hj:η.get 0 j=some (.list (jw row))){Q:PV->AH->Prop}
  (hit:∀{Q':PV->AH->Prop},Q' (.ref 0 j) η->W k it [p0,p1,some (.ref 1 md),p3,p4,p5,p6,p7,p8,p9,qS,qT,rG,ue] η Q')
  (q:∀jh i,Ke η jh->jh.get 1 i=some (.list (row.map A.m))->η.iZ<=i->Q (.ref 1 i) jh) :
  W k (.uN (.item (.v 2) (.v 13)) (.one 13) it .nil [2] [12,13]) [p0,p1,some (.ref 1 md),p3,p4,p5,p6,p7,p8,p9,qS,qT,rG,ue] η Q:=by
 refine rH ?_
 refine hit ?_
 refine ⟨_,sU hj,rfl,?_⟩
 rw [sV hj,mH,mj]
 simp only [clear,qB,qC]
 refine uh .str row (HN hl) (λy:Option PV=>[p0,p1,some (.ref 1 md),p3,p4,p5,p6,p7,p8,p9,qS,qT,none,y]) (λd J iY=>Ke η iY/\iY.get 1 η.iZ=some (.list (d.map A.m))) _ rfl (λd J iY h=>h.1.get _ _ _ hj) ⟨(Ke.refl _).add _,by have:=AH.jF η (.list []);rw [mj] at this;exact this⟩ ?_ ?_
 ·intro d x t y iY hd I GG qG
  refine jB I λK1 h1=>?_
  refine ⟨_,rfl,?_⟩
  simp only [qB,qC]
  refine nY (V.xZ) λl u a b=>?_
  have i1:jD tab (.ref 1 md) (.str x) iY=some (A.m x):=lF (K1.get _ _ _ a) (b x (NT x (by rw [hd];simp)))
  have nB:d.length<row.length:=by rw [hd];simp
  wtm_at "s"
  refine ⟨λJ=>?_,λh=>nomatch h⟩
  wtm_at "W"
  refine ⟨_,?_,qG _ _ ⟨K1.set mj.symm (ak _) _,AH.kX h1⟩⟩
  refine (rI h1).trans ?_
  rw [lM (by rw [aC];exact aas hl nB),cond_true,aV]
  rfl
 ·intro y iY I
  refine jB I λK1 h1=>?_
  exact q iY η.iZ K1 h1 (ak _)
end
end
section
section
variable{A:Ad}{sp:List Str}{md:Nat}{w:Nat}
theorem DC(hn:(fl.map az).Nodup){p:Str×Nat×List Str}(hp:p∈fl):ja fl p.1=some p.2:=by
 induction fl with
|nil=>cases hp
|cons q r ih=>
  obtain ⟨y,v⟩:=q
  rw [bT,bw] at hn
  unfold ja
  rcases aB.mp hp with rfl|h
  ·rw [jS.mpr rfl];rfl
  ·have:sq y p.1=false:=by
    induction hq:sq y p.1 using Bool.casesOn with
   |false=>rfl
   |true=>
     have:=jS.mp hq
     exact absurd (aQ.mpr ⟨p,h,this.symm⟩) hn.1
   rw [this]
   exact ih hn.2 h
theorem Zx(mj:η.reg=1)(V:Wd A sp md η){s a:Str}{at_:Str->Nat}(hi:i<10)(hi1:i≠1)(h9:η.get 0 9=some (.sd D u9))(hs:ja D s=some (.ref 0 i))(R:lY η i fl)(hn:(fl.map az).Nodup)(hl:fl.length<=10)
  (pS:∀p∈fl,p.1∈sp/\(∀g∈p.2.2,g∈sp)/\p.2.2.length<=2)
  (ha:∀x∈sp,∀fs,η.get 1 (A.ad x)=some (.inst 226 fs)->ja fs a=some (.ref 1 (at_ x))) (hfa:(jv tab.fields 226).map (oN · a)=some true)
  (h0:∀p∈fl,η.get 1 (at_ p.1)=some (.list [])) (inj:∀x∈sp,∀y∈sp,at_ x=at_ y->x=y)
   {Q:Fl->Sl->AH->Prop}
  (q:∀iY p7,Kn (λj=>∃p∈fl,j=at_ p.1) η iY->(∀p∈fl,iY.get 1 (at_ p.1)=some (.list (p.2.2.map A.m)))->Q .next [p0,some (.ref 0 9),some (.ref 1 md),p3,p4,p5,p6,p7,p8,p9,qS,qT,rG,ue] iY) :
  W1 k (.for false (.one 7) (.item (.v 1) (.k (.str s))) (.cons (.expr (.lP (.attr (.item (.v 2) (.v 7)) a) vO (.cons (.uN (.item (.v 2) (.v 13)) (.one 13) (.item (.item (.v 1) (.k (.str s))) (.v 7)) .nil [2] [12,13]) .nil))) .nil)) w [p0,some (.ref 0 9),some (.ref 1 md),p3,p4,p5,p6,p7,p8,p9,qS,qT,rG,ue] η Q:=by
 have Zn:jD tab (.ref 0 9) (.str s) η=some (.ref 0 i):=lF h9 hs
 wtm_at "s";wtm_at "s";wtm_at "s";wtm_at "s";wtm_at "s"
 obtain ⟨o,ho,NV⟩:∃o,((fl.map az=[]/\o=AO.jm)\/∃d u,o=.sd d u/\d.map az=fl.map az)/\η.get 0 i=some o:=by
  rcases R.at_ with ⟨rfl,h⟩|⟨u,h⟩
  ·exact ⟨_,.inl ⟨rfl,rfl⟩,h⟩
  ·exact ⟨_,.inr ⟨_,u,rfl,by unfold xV;rw [eX];rfl⟩,h⟩
 refine nY (V.xZ) λlm um pA s5=>?_
 have nm:∀p∈fl,md≠at_ p.1:=λp hp e=>by rw [e,h0 p hp] at pA;cases pA
 have Hi:∀x∈sp,∀p∈fl,A.ad x≠at_ p.1:=λx hx p hp e=>by
  refine jL (V.inst x hx) λfs h J=>?_
  rw [e,h0 p hp] at h;cases h
 have lt:∀p∈fl,at_ p.1<η.iZ:=λp hp=>AH.pR (h0 p hp) mj.symm
 refine Zw ho (by rw [aC];exact OD hl) (λx:Option PV=>[p0,some (.ref 0 9),some (.ref 1 md),p3,p4,p5,p6,x,p8,p9,qS,qT,rG,ue]) (λd J iY=>Kn (λj=>∃p∈fl,j=at_ p.1) η iY/\(∀p∈fl,p.1∈d->iY.get 1 (at_ p.1)=some (.list (p.2.2.map A.m)))/\(∀p∈fl,p.1∉d->iY.get 1 (at_ p.1)=some (.list []))) _ rfl (λd x iY I=>I.1.get _ _ _ (dc rfl) NV) ⟨Kn.refl,λp J h=>(nomatch h),λp hp J=>h0 p hp⟩ ?_ ?_
 ·intro d x t jk iY hd I GG qG
  refine pF I λK h1 h2=>?_
  refine ⟨_,rfl,?_⟩
  simp only [qB,qC]
  obtain ⟨p,hp,NW⟩:∃p∈fl,p.1=x:=by
   have:x∈fl.map az:=by rw [hd];simp
   refine jL (aQ.mp this) λp a b=>?_
   exact ⟨p,a,b⟩
  subst NW
  have NX:p.1∉d:=by
   rw [hd,cA,bw] at hn
   exact λh=>hn.2.2 _ h _ (by simp) rfl
  refine pF (pS p hp) λf1 f2 f3=>?_
  have Hj:iY.reg=1:=K.reg.trans mj
  have V':Wd A sp md iY:=V.kn K (λ⟨p,hp,e⟩=>nm p hp e) (λx hx ⟨p,hp,e⟩=>Hi x hx p hp e)
  refine nY (V'.xZ) λl' u' NZ N3=>?_
  have i1:jD tab (.ref 1 md) (.str p.1) iY=some (A.m p.1):=lF NZ (N3 _ f1)
  refine jL (V.inst p.1 f1) λfs Hl J=>?_
  have aov:=K.get 1 _ _ (λ⟨_,p',ng,e⟩=>Hi _ f1 p' ng e) Hl
  have a1:jV tab (A.m p.1) a iY=some (.ref 1 (at_ p.1)):=qU aov hfa (ha _ f1 fs Hl) rfl
  have g1:=h2 p hp NX
  wtm_at "W"
  refine jK (qE g1 (by decide +kernel)) ?_
  have NT:=R.row p hp
  have aow:=K.get 0 _ _ (dc rfl) NT.2
  have A5:=K.get 0 _ _ (dc rfl) h9
  have i2:jD tab (.ref 0 9) (.str s) iY=some (.ref 0 i):=lF A5 hs
  have i3:jD tab (.ref 0 i) (.str p.1) iY=some (.ref 0 p.2.1):=by
   rcases R.at_ with ⟨rfl,_⟩|⟨u,h⟩
   ·cases hp
   ·refine lF (K.get 0 _ _ (dc rfl) h) ?_
    rw [Du,DC hn hp]
    rfl
  wtm_at "s"
  refine aou V' Hj f2 (aat f3) aow (λ{Q'} h=>?_) λjh j K2 hj hjn=>?_
  ·wtm_at "W"
   exact h
  have lt':=lt p hp
  have n':=K.iZ
  wtm_at "W"
  refine qA (Gb (K2.get _ _ _ g1) hj (aau hjn lt' n') (by rw [aC];simp;exact DM f3)) ⟨rfl,?_⟩
  rw [bN]
  have K':Kn (λj=>∃p∈fl,j=at_ p.1) η (jh.set 1 (at_ p.1) (.list (p.2.2.map A.m))):=(K.ke K2).set ⟨p,hp,rfl⟩ _
  wtm_at "W"
  refine qG _ _ ⟨K',λp' ng lE=>?_,λp' ng lE=>?_⟩
  ·by_cases e:p'.1=p.1
   ·have e1:=DC hn hp
    have e2:=DC hn ng
    rw [e,e1] at e2
    rw [e,AH.kX (K2.get _ _ _ g1),ai e2]
   ·have aox:p'.1∈d:=by
     rcases aH.mp lE with h|h
     ·exact h
     ·exact absurd (aJ.mp h) e
    rw [AH.jP (λh=>e (inj _ (pS p' ng).1 _ f1 h.2))]
    exact K2.get _ _ _ (h1 p' ng aox)
  ·have e:p'.1≠p.1:=λh=>lE (by rw [h];simp)
   rw [AH.jP (λh=>e (inj _ (pS p' ng).1 _ f1 h.2))]
   exact K2.get _ _ _ (h2 p' ng λh=>lE (bD _ h))
 ·intro jk iY I
  refine pF I λK h1 h2=>?_
  exact q iY _ K λp hp=>h1 p hp (aQ.mpr ⟨p,hp,rfl⟩)
end
end
section
def MethAt(A:Ad)(nm:Str)(η:AH)(x:Str)(h:oV):Prop:=(h.1=kJ/\η.get 1 (A.ae x)=some .jm)\/(h.1≠kJ/\∃j,η.get 1 (A.ae x)=some (.sd [(nm,.ref 1 j)] 0)/\η.get 1 j=some (.inst 254 (yR nm (A.m h.2.2) h.1 .none .none h.2.1)))
theorem DE(hn:(hl.map az).Nodup){p:Str×oV}(hp:p∈hl):ja hl p.1=some p.2:=by
 induction hl with
|nil=>cases hp
|cons q r ih=>
  obtain ⟨y,v⟩:=q
  rw [bT,bw] at hn
  unfold ja
  rcases aB.mp hp with rfl|h
  ·rw [jS.mpr rfl];rfl
  ·have:sq y p.1=false:=by
    induction hq:sq y p.1 using Bool.casesOn with
   |false=>rfl
   |true=>
     have:=jS.mp hq
     exact absurd (aQ.mpr ⟨p,h,this.symm⟩) hn.1
   rw [this]
   exact ih hn.2 h
theorem Zy(hl:pB)(x:Str):ja (xY hl) x=(ja hl x).map lA:=AY lA hl x
section
variable{A:Ad}{sp:List Str}{md:Nat}{w:Nat}
theorem aoy(hk:30<=k)(mj:η.reg=1)(V:Wd A sp md η)(h9:η.get 0 9=some (.sd D u9))(hs:ja D nQ=some (.ref 0 8))(E:nO η hl)(hn:(hl.map az).Nodup)(GU:hl.length<=100)
  (hh:∀p∈hl,p.1∈sp/\p.2.2.2∈sp)
  (h0:∀x∈sp,η.get 1 (A.ae x)=some .jm) (inj:∀x∈sp,∀y∈sp,A.ae x=A.ae y->x=y)
   {Q:Fl->Sl->AH->Prop}
  (q:∀iY p8 p9 qS qT,Kn (λj=>∃x∈sp,j=A.ae x) η iY->(∀p∈hl,MethAt A nm iY p.1 p.2)->(∀x∈sp,x∉hl.map az->iY.get 1 (A.ae x)=some .jm)->Q .next [p0,some (.ref 0 9),some (.ref 1 md),p3,some (.str nm),p5,p6,p7,p8,p9,qS,qT,rG,ue] iY) :
  W1 k (.for false (.one 8) (.item (.v 1) (.k (.str nQ))) (.cons (.uO [(.loc 9),(.loc 10),(.loc 11)] (.item (.item (.v 1) (.k (.str nQ))) (.v 8))) (.cons (.ite (.cmp .NotEq (.v 9) (.k (.str kJ))) (.cons (.asg (.nG (.attr (.item (.v 2) (.v 8)) qM) (.v 4)) (.call (.st (.ref 254)) (.cons (.v 4) (.cons (.item (.v 2) (.v 11)) (.cons (.v 9) (.cons (.k .none) (.cons (.k .none) (.cons (.v 10) .nil)))))))) .nil) .nil) .nil))) w [p0,some (.ref 0 9),some (.ref 1 md),p3,some (.str nm),p5,p6,p7,p8,p9,qS,qT,rG,ue] η Q:=by
 have Zn:jD tab (.ref 0 9) (.str nQ) η=some (.ref 0 8):=lF h9 hs
 wtm_at "s";wtm_at "s";wtm_at "s";wtm_at "s";wtm_at "s"
 obtain ⟨o,ho,NV⟩:∃o,((hl.map az=[]/\o=AO.jm)\/∃d u,o=.sd d u/\d.map az=hl.map az)/\η.get 0 8=some o:=by
  rcases E with ⟨rfl,h⟩|⟨u,h⟩
  ·exact ⟨_,.inl ⟨rfl,rfl⟩,h⟩
  ·exact ⟨_,.inr ⟨_,u,rfl,by unfold xY;rw [eX];rfl⟩,h⟩
 refine nY (V.xZ) λlm um pA s5=>?_
 have nmd:∀x∈sp,md≠A.ae x:=λx hx e=>by rw [e,h0 x hx] at pA;cases pA
 have Hi:∀x∈sp,∀y∈sp,A.ad x≠A.ae y:=λx hx y hy e=>by
  refine jL (V.inst x hx) λfs h J=>?_
  rw [e,h0 y hy] at h;cases h
 refine Zw ho (by rw [aC];exact HN GU) (λx:Jk=>[p0,some (.ref 0 9),some (.ref 1 md),p3,some (.str nm),p5,p6,p7,x 0,x 1,x 2,x 3,rG,ue]) (λd J iY=>Kn (λj=>∃x∈sp,j=A.ae x) η iY/\(∀p∈hl,p.1∈d->MethAt A nm iY p.1 p.2)/\(∀x∈sp,x∉d->iY.get 1 (A.ae x)=some .jm)) (λi=>[_,_,_,_].getD i none) rfl (λd x iY I=>I.1.get _ _ _ (dc rfl) NV) ⟨Kn.refl,λp J h=>(nomatch h),λx hx J=>h0 x hx⟩ ?_ ?_
 ·intro d x t jk iY hd I GG qG
  refine pF I λK h1 h2=>?_
  refine ⟨_,rfl,?_⟩
  simp only [qB,qC]
  obtain ⟨p,hp,NW⟩:∃p∈hl,p.1=x:=by
   have:x∈hl.map az:=by rw [hd];simp
   refine jL (aQ.mp this) λp a b=>?_
   exact ⟨p,a,b⟩
  subst NW
  have NX:p.1∉d:=by
   rw [hd,cA,bw] at hn
   exact λh=>hn.2.2 _ h _ (by simp) rfl
  refine jB (hh p hp) λf1 f2=>?_
  have Hj:iY.reg=1:=K.reg.trans mj
  have V':Wd A sp md iY:=V.kn K (λ⟨y,hy,e⟩=>nmd y hy e) (λx hx ⟨y,hy,e⟩=>Hi x hx y hy e)
  refine nY (V'.xZ) λl' u' NZ N3=>?_
  have A5:=K.get 0 _ _ (dc rfl) h9
  have i2:jD tab (.ref 0 9) (.str nQ) iY=some (.ref 0 8):=lF A5 hs
  have i3:jD tab (.ref 0 8) (.str p.1) iY=some (lA p.2):=by
   rcases E with ⟨rfl,_⟩|⟨u,h⟩
   ·cases hp
   ·refine lF (K.get 0 _ _ (dc rfl) h) ?_
    rw [Zy,DE hn hp]
    rfl
  have dn:=h2 p.1 f1 NX
  have ind:∀p'∈hl,p'.1∈d++[p.1]->p'.1≠p.1->p'.1∈d:=λp' J lE e=>by
   rcases aH.mp lE with h|h
   ·exact h
   ·exact absurd (aJ.mp h) e
  have same:∀p'∈hl,p'.1=p.1->p'.2=p.2:=λp' ng e=>by
   have e1:=DE hn hp
   have e2:=DE hn ng
   rw [e,e1] at e2
   exact (ai e2).symm
  wtm_at "W"
  rw [show lA p.2=.tup [.str p.2.1,.str p.2.2.1,.str p.2.2.2] from rfl]
  by_cases Bf:p.2.1=kJ
  ·have hq:sq p.2.1 kJ=true:=jS.mpr Bf
   wtm_at "W"
   rw [hq]
   wtm_at "W"
   refine qG (λi=>([some (.str p.1),some (.str p.2.1),some (.str p.2.2.1),some (.str p.2.2.2)]:Sl).getD i none) _ ⟨K,λp' ng lE=>?_,λx hx lE=>h2 x hx λh=>lE (bD _ h)⟩
   by_cases e:p'.1=p.1
   ·rw [same p' ng e,e]
    exact .inl ⟨Bf,dn⟩
   ·exact h1 p' ng (ind p' ng lE e)
  ·have hq:sq p.2.1 kJ=false:=by
    induction h:sq p.2.1 kJ using Bool.casesOn with
   |false=>rfl
   |true=>exact absurd (jS.mp h) Bf
   have io:jD tab (.ref 1 md) (.str p.2.2.2) iY=some (A.m p.2.2.2):=lF NZ (N3 _ f2)
   wtm_at "W"
   rw [hq]
   wtm_at "W"
   refine (Xu (by wtm_at "o")).mW λjh K2 h3=>?_
   rw [Hj] at h3 ⊢
   have V2:Wd A sp md jh:=V'.kn (ex:=λJ=>False) (Kn.refl.ke K2) (λh=>h) (λJ J h=>h)
   refine nY (V2.xZ) λl2 u2 aoz aoA=>?_
   have ix:jD tab (.ref 1 md) (.str p.1) jh=some (A.m p.1):=lF aoz (aoA _ f1)
   refine Bt (V2.inst p.1 f1) λfs Hl J J hfm=>?_
   have am:jV tab (A.m p.1) qM jh=some (.ref 1 (A.ae p.1)):=qU Hl (by kernel_rfl) hfm rfl
   have Ho:=K2.get _ _ _ dn
   have lt:=AH.pR dn Hj.symm
   have st:mV (.ref 1 (A.ae p.1)) (.str nm) (.ref 1 iY.iZ) jh=some (jh.set 1 (A.ae p.1) (.sd [(nm,.ref 1 iY.iZ)] 0)):=by
    exact Am Ho
   wtm_at "W"
   refine qG (λi=>([some (.str p.1),some (.str p.2.1),some (.str p.2.2.1),some (.str p.2.2.2)]:Sl).getD i none) _ ⟨(K.ke K2).set ⟨_,f1,rfl⟩ _,λp' ng lE=>?_,λx hx lE=>?_⟩
   ·by_cases e:p'.1=p.1
    ·rw [same p' ng e,e]
     exact .inr ⟨Bf,_,AH.kX Ho,by rw [AH.jP (aeh lt)];exact h3⟩
    ·rcases h1 p' ng (ind p' ng lE e) with ⟨a,b⟩|⟨a,j,b,b'⟩
     ·exact .inl ⟨a,by rw [AH.jP (λh=>e (inj _ (hh p' ng).1 _ f1 h.2))];exact K2.get _ _ _ b⟩
     ·refine .inr ⟨a,j,by rw [AH.jP (λh=>e (inj _ (hh p' ng).1 _ f1 h.2))];exact K2.get _ _ _ b,?_⟩
      rw [AH.jP]
      ·exact K2.get _ _ _ b'
      ·rintro ⟨_,rfl⟩
       rw [dn] at b'
       cases b'
   ·have e:x≠p.1:=λh=>lE (by rw [h];simp)
    rw [AH.jP (λh=>e (inj _ hx _ f1 h.2))]
    exact K2.get _ _ _ (h2 x hx λh=>lE (bD _ h))
 ·intro jk iY I
  refine pF I λK h1 h2=>?_
  exact q iY _ _ _ _ K (λp hp=>h1 p hp (aQ.mpr ⟨p,hp,rfl⟩)) h2
end
end
section
section
variable{A:Ad}{sp:List Str}{md ac:Nat}
structure Raw(A:Ad)(sp:List Str)(md:Nat)(η:AH):Prop where
 wd:Wd A sp md η
 adI:∀x∈sp,∀y∈sp,A.ae x=A.ae y->x=y
 afI:∀x∈sp,∀y∈sp,A.af x=A.af y->x=y
 amI:∀x∈sp,∀y∈sp,A.am x=A.am y->x=y
 Zz:∀x∈sp,∀y∈sp,A.af x≠A.am y
 lP:∀x∈sp,η.get 1 (A.ae x)=some .jm
 front:∀x∈sp,η.get 1 (A.af x)=some (.list [])
structure Dn(A:Ad)(sp:List Str)(nm:Str)(fl ml:Rows)(hl:pB)(η iY:AH):Prop where
 kn:Kn (λj=>(∃p∈fl,j=A.af p.1)\/(∃p∈ml,j=A.am p.1)\/∃x∈sp,j=A.ae x) η iY
 front:∀p∈fl,iY.get 1 (A.af p.1)=some (.list (p.2.2.map A.m))
 mix:∀p∈ml,iY.get 1 (A.am p.1)=some (.list (p.2.2.map A.m))
 lP:∀p∈hl,MethAt A nm iY p.1 p.2
 rest:∀x∈sp,x∉hl.map az->iY.get 1 (A.ae x)=some .jm
theorem aoB(hk:40<=k)(mj:η.reg=1)(W0:Raw A sp md η)(h9:η.get 0 9=some (.sd D u9))(hs1:ja D pI=some (.ref 0 6))(hs2:ja D mz=some (.ref 0 7))(hs3:ja D nQ=some (.ref 0 8))
   (R6:lY η 6 fl) (R7:lY η 7 ml) (E:nO η hl) (n6:(fl.map az).Nodup) (n7:(ml.map az).Nodup) (n8:(hl.map az).Nodup) (l6:fl.length<=10) (l7:ml.length<=10) (l8:hl.length<=100)
  (f6:∀p∈fl,p.1∈sp/\(∀g∈p.2.2,g∈sp)/\p.2.2.length<=2) (f7:∀p∈ml,p.1∈sp/\(∀g∈p.2.2,g∈sp)/\p.2.2.length<=2) (f8:∀p∈hl,p.1∈sp/\p.2.2.2∈sp)
  (DF:∀p∈ml,η.get 1 (A.am p.1)=some (.list [])) {Q:PV->AH->Prop}
  (q:∀iY,Dn A sp nm fl ml hl η iY->Q (.tup [.ref 1 md,.ref 1 ac]) iY) :
  WS k (kj 9 pO) 0 [p0,some (.ref 0 9),some (.ref 1 md),some (.ref 1 ac),some (.str nm),p5,p6,p7,p8,p9,qS,qT,rG,ue] η (nc Q):=by
 have inst:=W0.wd.inst
 have Hp:∀x∈sp,∀l,η.get 1 (A.ae x)≠some (.list l):=λx hx l e=>by rw [W0.lP x hx] at e;cases e
 refine nY (W0.wd.xZ) λlm um pA s5=>?_
 unfold pO
 dsimp only [kj]
 wtm_at "s"
 refine Zx mj W0.wd (dc rfl) (dc rfl) h9 hs1 R6 n6 l6 f6 (λx hx fs h=>?_) (by kernel_rfl) (λp hp=>W0.front _ (f6 p hp).1) W0.afI λji p7' K1 g1=>?_
 ·refine vo (inst x hx) λsY a b J=>?_
  rw [a] at h
  cases h
  exact b
 have Dt:ji.reg=1:=K1.reg.trans mj
 have aoC:¬ ∃p∈fl,md=A.af p.1:=λ⟨p,hp,e⟩=>by rw [e,W0.front _ (f6 p hp).1] at pA;cases pA
 have ZB:∀x∈sp,¬ ∃p∈fl,A.ad x=A.af p.1:=λx hx ⟨p,hp,e⟩=>by
  refine jL (inst x hx) λfs a J=>?_
  rw [e,W0.front _ (f6 p hp).1] at a;cases a
 have V1:Wd A sp md ji:=W0.wd.kn K1 aoC ZB
 wtm_at "s"
 refine Zx Dt V1 (dc rfl) (dc rfl) (K1.get _ _ _ (dc rfl) h9) hs2 (R7.mono (λj o hj e=>K1.get _ _ _ (dc rfl) e) (dc rfl)) n7 l7 f7 (λx hx fs h=>?_) (by kernel_rfl) (λp hp=>K1.get _ _ _ (λ⟨_,p',ng,e⟩=>W0.Zz _ (f6 p' ng).1 _ (f7 p hp).1 e.symm) (DF p hp)) W0.amI λjh aqT K2 g2=>?_
 ·refine Bt (inst x hx) λsY a J b J=>?_
  rw [K1.get _ _ _ (λh=>ZB x hx h.2) a] at h
  cases h
  exact b
 have zc:jh.reg=1:=K2.reg.trans Dt
 have aoD:¬ ∃p∈ml,md=A.am p.1:=λ⟨p,hp,e⟩=>by rw [e,DF p hp] at pA;cases pA
 have aoE:∀x∈sp,¬ ∃p∈ml,A.ad x=A.am p.1:=λx hx ⟨p,hp,e⟩=>by
  refine jL (inst x hx) λfs a J=>?_
  rw [e,DF p hp] at a;cases a
 have V2:Wd A sp md jh:=V1.kn K2 aoD aoE
 have Ho:∀x∈sp,jh.get 1 (A.ae x)=some .jm:=λx hx=>K2.get _ _ _ (λ⟨_,p,hp,e⟩=>Hp x hx [] (by rw [e];exact DF p hp)) (K1.get _ _ _ (λ⟨_,p,hp,e⟩=>Hp x hx [] (by rw [e];exact W0.front _ (f6 p hp).1)) (W0.lP x hx))
 wtm_at "s"
 refine aoy (adi hk) zc V2 (K2.get _ _ _ (dc rfl) (K1.get _ _ _ (dc rfl) h9)) hs3 (E.mono λo e=>K2.get _ _ _ (dc rfl) (K1.get _ _ _ (dc rfl) e)) n8 l8 f8 Ho W0.adI λjl p8' p9' G8 aqU K3 g3 g4=>?_
 have ZC:∀(r i:Nat) (o:AO),(∀x∈sp,i≠A.ae x)->jh.get r i=some o->jl.get r i=some o:=λr i o h e=>K3.get _ _ _ (λ⟨_,x,hx,e⟩=>h x hx e) e
 wtm_at "W"
 refine jA (q jl ⟨⟨(K3.reg.trans K2.reg).trans K1.reg,ah K1.iZ (ah K2.iZ K3.iZ),λr i o hn e=>?_⟩,λp hp=>?_,λp hp=>?_,g3,g4⟩)
 ·refine K3.get _ _ _ (λ⟨a,b⟩=>hn ⟨a,.inr (.inr b)⟩) (K2.get _ _ _ (λ⟨a,b⟩=>hn ⟨a,.inr (.inl b)⟩) (K1.get _ _ _ (λ⟨a,b⟩=>hn ⟨a,.inl b⟩) e))
 ·refine ZC _ _ _ (λx hx e=>Hp x hx [] (by rw [<-e];exact W0.front _ (f6 p hp).1)) (K2.get _ _ _ (λ⟨_,p',ng,e⟩=>W0.Zz _ (f6 p hp).1 _ (f7 p' ng).1 e) (g1 p hp))
 ·exact ZC _ _ _ (λx hx e=>Hp x hx [] (by rw [<-e];exact DF p hp)) (g2 p hp)
end
theorem aoF(w:Nat):sL tab 1145 [.ref 1 (w+1),.ref 0 9]=some [.ref 1 (w+1),.ref 0 9]:=by kernel_rfl
theorem N4:SX 181 fM:=Kv (UT Zv 16) 15
theorem aoG{b:Nat}{jl:AH}{Q:PV->AH->Prop}(hK:200<=K)(hA:rN fM 2 pO (Be b) η=some (vg nm b,ji))(hB:rN fM 6 (kj 2 pO) (vg nm b) ji=some (uy nm b,jh))
  (hC:rN fM 1 (kj 8 pO) (uy nm b) jh=some (uy nm b,jl)) (hw:WS 181 (kj 9 pO) 0 (uy nm b) jl (nc λv η=>Q v η.fresh)):jb K (.st (.ref 1145)) [.ref 1 (b+1),.ref 0 9] η Q:=
 jb.le (k:=200) (jb.Kg (k:=181) (N:=12) 0 ak8 (aoF b) (Kw N4 hA (Kw N4 hB (Kw N4 hC hw)))) hK
end
def MI0:MI:=⟨0,0,false,none,false,none,kg,none,0,0,0,0,0⟩
def jj(hk:Bool)(al:Nat)(n:Str):MI:=(ja (tM hk al) n).getD MI0
def kG(hk:Bool)(al:Nat):List Str:=(tM hk al).map az
def Hq(hk:Bool)(al:Nat):Nat->Str->Str
|0,n=>n
|f+1,n=>if (jj hk al n).mS=true then match (jj hk al n).jt with
 |some p=>Hq hk al f p
 |none=>n
  else n
def ZD(hk:Bool)(al:Nat)(o:Str):Str:=if (jj hk al o).cls=true then Hq hk al 11 o else o
def Hr(hk:Bool)(al:Nat):Nat->Option Str->Option Str
|0,_=>none
|_+1,none=>none
|f+1,some p=>match (jj hk al p).own with
 |some x=>some x
 |none=>Hr hk al f (jj hk al p).jt
def ZE(hk:Bool)(al:Nat)(n:Str):Str:=match (jj hk al n).own with
|some x=>x
|none=>(if (jj hk al n).cls=true/\(jj hk al n).mS=false then Hr hk al 11 (jj hk al n).jt else none).getD (jj hk al n).owner
def wu(hk:Bool)(al:Nat)(x:Str):Str:=(((ja xM x).getD []).filter λy=>(ja (oq hk al) y).isSome).headD kg
structure Stat(hk:Bool)(al:Nat):Prop where
 nodup:(kG hk al).Pairwise (·≠·)
 few:(kG hk al).length<=40
 FW:(tM hk al).Pairwise λp q=>p.2.j8≠q.2.j8
 Ar:(tM hk al).Pairwise λp q=>p.2.num≠q.2.num
 ZF:(tM hk al).Pairwise λp q=>p.2.mY≠q.2.mY
 ZG:(tM hk al).Pairwise λp q=>p.2.mU≠q.2.mU
 As:(tM hk al).Pairwise λp q=>p.2.ku≠q.2.ku
 apart:∀p∈tM hk al,∀q∈tM hk al,p.2.j8≠q.2.mY/\p.2.j8≠q.2.mU/\p.2.j8≠q.2.ku/\p.2.mY≠q.2.mU/\p.2.mY≠q.2.ku/\p.2.mU≠q.2.ku
 low:∀p∈tM hk al,∀i∈[1,2,4,45,46,107,109,111,113],p.2.j8≠i/\p.2.ku≠i/\p.2.mY≠i/\p.2.mU≠i
 pos:∀p∈tM hk al,1<=p.2.j8/\1<=p.2.mY/\1<=p.2.mU/\1<=p.2.ku
 jt:∀p∈tM hk al,(p.2.jt.all λq=>decide (q∈kG hk al) && decide ((jj hk al q).depth<p.2.depth))=true
 deep:∀p∈tM hk al,p.2.depth<10
 FU:∀p∈tM hk al,p.2.mS=true->p.2.jt.isSome=true
 own:∀p∈tM hk al,(p.2.own.all λq=>decide (q∈kG hk al))=true
 owner:∀p∈tM hk al,p.2.owner∈kG hk al
 rank:∀p∈tM hk al,p.2.rank<=2
 aoH:∀g∈u6 hk al,g∈kG hk al/\(jj hk al g).rank=2
 rU:∀g∈l0 hk al,g∈kG hk al
 goals:∀g∈u6 hk al,g∈l0 hk al
 mn:jN∈l0 hk al/\lg∈l0 hk al/\(jj hk al jN).rank=1/\(jj hk al lg).rank=0/\(jj hk al jN).jt=none/\(jj hk al lg).jt=none
 within:∀p∈pT,(jj hk al p.1).rank=2/\p.2.length<=2/\∀g∈p.2,g∈kG hk al/\(jj hk al g).rank=0/\(jj hk al g).jt=none
 aqV:∀g∈l0 hk al,g∈pT.map az->g=kE
 aoI:∀g∈u6 hk al,g∉pT.map az
 above:∀p∈tM hk al,ja (oq hk al) p.1=some p.2.jt
 nat:∀p∈tM hk al,∀s∈[j0,jW,jX],p.2.nat=some s->p.1=s
 aoJ:∀s∈[j0,jW,jX],(jj hk al s).nat=some s
 cnt:∀o∈l0 hk al,CZ o=ZD hk al o
 heads:∀x∈lZ,wu hk al x∈kG hk al/\(jj hk al (wu hk al x)).jt.isSome=true/\((ja xM x).getD []).filter (λy=>(ja (oq hk al) y).isSome)≠[]
 uW:∀x∈[ju,jG,lB,jN,mL],x∈kG hk al/\ZE hk al x=wu hk al x
 Hs:jW∈kG hk al/\jX∈kG hk al/\wu hk al tW=jW/\wu hk al uM=jX
theorem ZH{f:Bool->Nat->Bool}(h:al<4)(e:([0,1,2,3].all λa=>f false a && f true a)=true):f hk al=true:=by
 have:=(aN _ _).mp (aI.mp e al (by rcases DL h with rfl|rfl|rfl|rfl<;>decide))
 cases hk
 ·exact this.1
 ·exact this.2
theorem ckD{P:Bool->Nat->Prop}[∀a b,Decidable (P a b)](hk:Bool)(h:al<4)(e:([0,1,2,3].all λa=>decide (P false a) && decide (P true a))=true):P hk al:=of_decide_eq_true (ZH (f:=λa b=>decide (P a b)) h e)
theorem ckB{f:Bool->Nat->Nat->Bool}(hk:Bool){b:Nat}(h:al<4)(hb:b=0\/b=1)(e:([0,1,2,3].all λa=>(f false a 0 && f false a 1) && (f true a 0 && f true a 1))=true):f hk al b=true:=by
 have:=(aN _ _).mp (ZH (hk:=hk) (f:=λa b=>f a b 0 && f a b 1) h e)
 rcases hb with rfl|rfl
 ·exact this.1
 ·exact this.2
theorem stat(hk:Bool)(al:Nat)(h:al<4):Stat hk al:=by
 constructor<;>(apply ckD hk h;kernel_rfl)
noncomputable def Ht(v:Option PV)(i:Int):Bool:=match v with
|some (.int j)=>decide (j=i)
|_=>false
noncomputable def ZI(v:Option PV)(c:Bool):Bool:=match v with
|some (.bool d)=>d == c
|_=>false
noncomputable def pV(v:Option PV)(a:Nat):Bool:=match v with
|some (.ref r i)=>aj r 1 && aj i a
|_=>false
noncomputable def A4(v:Option PV):Bool:=match v with
|some .none=>true
|_=>false
def ZJ(v:Option PV)(s:Str):Bool:=match v with
|some (.str x)=>sq x s
|_=>false
theorem N6{v:Option PV}{i:Int}(h:Ht v i=true):v=some (.int i):=by
 cases v with
|none=>exact xf h
|some p=>cases p with
 |int j=>exact congrArg (λx=>some (PV.int x)) (of_decide_eq_true (show decide (j=i)=true from h))
 |_=>exact xf h
theorem aoK{v:Option PV}{c:Bool}(h:ZI v c=true):v=some (.bool c):=by
 cases v with
|none=>exact xf h
|some p=>cases p with
 |bool d=>exact congrArg (λx=>some (PV.bool x)) (beq_iff_eq.mp (show (d == c)=true from h))
 |_=>exact xf h
theorem qi{v:Option PV}{a:Nat}(h:pV v a=true):v=some (.ref 1 a):=by
 cases v with
|none=>exact xf h
|some p=>cases p with
 |ref r i=>exact xb (show (aj r 1 && aj i a)=true from h) λh1 h2=>by rw [aP h1,aP h2]
 |_=>exact xf h
theorem Hu{v:Option PV}(h:A4 v=true):v=some .none:=by
 cases v with
|none=>exact xf h
|some p=>cases p with
 |none=>rfl
 |_=>exact xf h
theorem aoL{v:Option PV}{s:Str}(h:ZJ v s=true):v=some (.str s):=by
 cases v with
|none=>exact xf h
|some p=>cases p with
 |str x=>exact congrArg (λx=>some (PV.str x)) (jS.mp (show sq x s=true from h))
 |_=>exact xf h
def Hv(hk:Bool)(al b:Nat)(v:Option PV)(o:Option Str):Bool:=match o with
|none=>A4 v
|some q=>pV v (b+(jj hk al q).j8)
def Bg(hk:Bool)(al b:Nat):Option Str->PV
|none=>.none
|some q=>.ref 1 (b+(jj hk al q).j8)
theorem N7{b:Nat}{v:Option PV}{o:Option Str}(h:Hv hk al b v o=true):v=some (Bg hk al b o):=by
 induction o using Option.casesOn with
|none=>exact Hu h
|some q=>exact qi h
def isNat(v:Option PV)(o:Option Str):Bool:=match o with
|none=>A4 v
|some s=>ZJ v s
noncomputable def zk:Option Str->PV
|none=>.none
|some s=>.str s
theorem aoM{v:Option PV}{o:Option Str}(h:isNat v o=true):v=some (zk o):=by
 induction o using Option.casesOn with
|none=>exact Hu h
|some q=>exact aoL h
def ZK(v:Option PV)(c:Bool):Bool:=match v with
|some u=>(lW u == !c) && oh u
|none=>false
structure Hw(hk:Bool)(al b:Nat)(x:MI)(fs:List (Str×PV)):Prop where
 len:fs.length=17
 num:ja fs mC=some (.int x.num)
 cls:ja fs ry=some (.bool x.cls)
 jt:ja fs qN=some (Bg hk al b x.jt)
 mS:∃v,ja fs uI=some v/\lW v=!x.mS/\oh v=true
 own:ja fs nF=some (Bg hk al b x.own)
 owner:ja fs lK=some (.ref 1 (b+(jj hk al x.owner).j8))
 nat:ja fs kJ=some (zk x.nat)
 mix:ja fs mz=some (.ref 1 (b+x.mU))
 front:ja fs sy=some (.ref 1 (b+x.mY))
 lP:ja fs qM=some (.ref 1 (b+x.ku))
 kept:ja fs ni=some .none
 CL:ja fs vP=none
def N8(hk:Bool)(al b:Nat)(x:MI)(o:Option AO):Bool:=match o with
|some (.inst c fs)=>aj c 226 && (aj fs.length 17 && (Ht (ja fs mC) x.num && (ZI (ja fs ry) x.cls && (Hv hk al b (ja fs qN) x.jt && (ZK (ja fs uI) x.mS && (Hv hk al b (ja fs nF) x.own && (pV (ja fs lK) (b+(jj hk al x.owner).j8) && (isNat (ja fs kJ) x.nat && (pV (ja fs mz) (b+x.mU) && (pV (ja fs sy) (b+x.mY) && (pV (ja fs qM) (b+x.ku) && (A4 (ja fs ni) && (ja fs vP).isNone))))))))))))
|_=>false
set_option tactic.hygienic true in
theorem ZL{b:Nat}{x:MI}{o:Option AO}(h:N8 hk al b x o=true):∃fs,o=some (.inst 226 fs)/\Hw hk al b x fs:=by
 unfold N8 at h
 split at h
 ·rename_i c fs
  simp only [aN] at h
  obtain ⟨h1,h2,h3,h4,h5,h6,h7,h8,h9,A6,h11,My,h13,h14⟩:=h
  refine ⟨fs,by rw [aP h1],aP h2,N6 h3,aoK h4,N7 h5,?_,N7 h7,qi h8,aoM h9,qi A6,qi h11,qi My,Hu h13,by simpa using h14⟩
  unfold ZK at h6
  split at h6
  ·rename_i u hu
   rw [aN,beq_iff_eq] at h6
   exact ⟨u,hu,h6.1,h6.2⟩
  ·exact xf h6
 ·exact xf h
noncomputable def isNil(o:Option AO):Bool:=match o with
|some (.list [])=>true
|_=>false
theorem ZM{o:Option AO}(h:isNil o=true):o=some (.list []):=by
 unfold isNil at h
 split at h
 ·rfl
 ·exact xf h
noncomputable def Hx(o:Option AO):Bool:=match o with
|some .jm=>true
|_=>false
theorem Oa{o:Option AO}(h:Hx o=true):o=some .jm:=by
 unfold Hx at h
 split at h
 ·rfl
 ·exact xf h
def Hy(hk:Bool)(al b:Nat):List PV->List Str->Bool
|[],[]=>true
|v::r,g::t=>pV (some v) (b+(jj hk al g).j8) && Hy hk al b r t
|_,_=>false
theorem aoN{b:Nat}:∀{t:List Str},Hy hk al b l t=true->l=t.map λg=>.ref 1 (b+(jj hk al g).j8):=by
 induction l with
|nil=>exact λ{t} h=>match t,h with
 |[],_=>rfl
 |_::_,h=>xf h
|cons v r ih=>exact λ{t} h=>match t,h with
 |[],h=>xf h
 |g::t,h=>xb (show (pV (some v) (b+(jj hk al g).j8) && Hy hk al b r t)=true from h) λh1 h2=>by rw [bT,<-ih h2,ai (qi h1)]
def Ob(hk:Bool)(al b:Nat)(o:Option AO)(t:List Str):Bool:=match o with
|some (.list l)=>Hy hk al b l t
|_=>false
theorem ZN{b:Nat}{o:Option AO}{t:List Str}(h:Ob hk al b o t=true):o=some (.list (t.map λg=>.ref 1 (b+(jj hk al g).j8))):=by
 unfold Ob at h
 split at h
 ·rw [aoN h]
 ·exact xf h
def DG(hk:Bool)(al b:Nat)(H:List AO)(p:Str×MI):Bool:=
 N8 hk al b p.2 H[p.2.j8 - 1]? && (Ob hk al b H[p.2.mU - 1]? ((ja pT p.1).getD []) && (isNil H[p.2.mY - 1]? && Hx H[p.2.ku - 1]?))
def ZO(ws:List (Str×PV)):Bool:=(ja ws rz).isNone && ((ja ws vM).isNone && ((ja ws oZ).isNone && ((ja ws yx).isNone && (ja ws t5).isNone)))
def Oc(hk:Bool)(al:Nat):Int:=match ((hM hk al 0)[0]?:Option AO) with
|some (AO.inst _ ws)=>match ja ws sE with
 |some (.int i)=>i
 |_=>0
|_=>0
def ZP(hk:Bool)(al b:Nat)(o:Option AO):Bool:=match o with
|some (.inst c ws)=>aj c 1054 && (Ht (ja ws sE) (Oc hk al) && (pV (ja ws vV) b && (pV (ja ws vW) (b+2) && (pV (ja ws tZ) (b+4) && ZO ws))))
|_=>false
noncomputable def DH(o:Option AO)(f:List (Str×PV)->Bool):Bool:=match o with
|some (.sd l _)=>f l
|_=>false
theorem Hz{o:Option AO}{f:List (Str×PV)->Bool}(h:DH o f=true):∃l u,o=some (.sd l u)/\f l=true:=by
 unfold DH at h
 split at h
 ·exact ye _ _ rfl h
 ·exact xf h
def wz(x:Str):Nat:=if x=lN then 107 else if x=qu then 109 else if x=pn then 111 else 113
def Bh(x:Str):Str:=if x=pn then jG else if x=pY then lB else ju
def Od(hk:Bool)(al b:Nat)(x:Str)(o:Option AO):Bool:=match o with
|some (.inst c fs)=>aj c 38 && (Hv hk al b (ja fs nF) (if x=lN/\hk=true then some j6 else none) && pV (ja fs lK) (b+(jj hk al (Bh x)).j8))
|_=>false
set_option tactic.hygienic true in
theorem aoO{b:Nat}{x:Str}{o:Option AO}(h:Od hk al b x o=true):∃fs,o=some (.inst 38 fs)/\ja fs nF=some (Bg hk al b (if x=lN/\hk=true then some j6 else none))/\ja fs lK=some (.ref 1 (b+(jj hk al (Bh x)).j8)):=by
 unfold Od at h
 split at h
 ·rename_i c fs
  simp only [aN] at h
  exact ⟨fs,by rw [aP h.1],N7 h.2.1,qi h.2.2⟩
 ·exact xf h
def Oe(hk:Bool)(al b:Nat)(l:List (Str×PV)):Bool:=Ht (ja l tW) 5 && (A4 (ja l uM) && (([ju,jG,lB,jN,mL].all λx=>pV (ja l x) (b+(jj hk al x).j8)) && [lN,qu,pn,pY].all λx=>pV (ja l x) (b+wz x)))
structure Chk(hk:Bool)(al b:Nat)(H:List AO):Prop where
 mods:(tM hk al).all (DG hk al b H)=true
 world:ZP hk al b H[0]?=true
 rJ:Hx H[1]?=true
 made:DH H[3]? (λl=>pV (ja l jW) (b+(jj hk al jW).j8) && pV (ja l jX) (b+(jj hk al jX).j8))=true
 mod:DH H[44]? (λl=>(l0 hk al).all λx=>pV (ja l x) (b+(jj hk al x).j8))=true
 act:DH H[45]? (Oe hk al b)=true
 things:([lN,qu,pn,pY].all λx=>Od hk al b x H[wz x - 1]?)=true
theorem ZQ(hk:Bool)(al b:Nat)(h:al<4)(hb:b=0\/b=1):Chk hk al b (hM hk al b):=by
 constructor<;>(apply ckB hk h hb;kernel_rfl)
section
def wA(hk:Bool)(al b:Nat):Ad:=⟨λx=>b+(jj hk al x).j8,λx=>b+(jj hk al x).mY,λx=>b+(jj hk al x).mU,λx=>b+(jj hk al x).ku⟩
def uz(ml:Rows)(n:Str):List Str:=match ja ml n with
|some p=>p.2
|none=>(ja pT n).getD []
theorem HC{α β:Type}{f:α->β}:∀{l:List α},l.Pairwise (λp q=>f p≠f q)->∀{p q:α},p∈l->q∈l->f p=f q->p=q
|[],_,p,_,h,_,_=>nomatch h
|a::r,hp,p,q,h1,h2,e=>by
  rw [c5] at hp
  rcases aB.mp h1 with a1|a1<;>rcases aB.mp h2 with a2|a2
  ·rw [a1,a2]
  ·subst a1
   exact absurd e (hp.1 _ a2)
  ·subst a2
   exact absurd e.symm (hp.1 _ a1)
  ·exact HC hp.2 a1 a2 e
section
variable{b:Nat}(S:Stat hk al)
include S
theorem ent(hn:n∈kG hk al):(n,jj hk al n)∈tM hk al:=by
 refine jL (aQ.mp hn) λp hp lH=>?_
 obtain rfl:=lH
 have:ja (tM hk al) p.1=some p.2:=by
  have nd:=S.nodup
  unfold kG at nd
  rw [fy] at nd
  clear hn
  revert hp nd
  generalize tM hk al=t
  induction t with
 |nil=>intro h;cases h
 |cons q r ih=>
   intro hp nd
   rw [c5] at nd
   obtain ⟨y,v⟩:=q
   unfold ja
   rcases aB.mp hp with rfl|h
   ·rw [jS.mpr rfl];rfl
   ·have:sq y p.1=false:=by
     induction hq:sq y p.1 using Bool.casesOn with
    |false=>rfl
    |true=>exact absurd (jS.mp hq) (nd.1 p h)
    rw [this]
    exact ih h nd.2
 unfold jj
 rw [this]
 exact hp
theorem ya{f:MI->Nat}(h:(tM hk al).Pairwise λp q=>f p.2≠f q.2){x y:Str}(hx:x∈kG hk al)(hy:y∈kG hk al)(e:f (jj hk al x)=f (jj hk al y)):x=y:=
 congrArg az (HC (f:=λp:Str×MI=>f p.2) h (ent S hx) (ent S hy) e)
end
structure Fin(hk:Bool)(al b:Nat)(nm nt:Str)(fl ml:Rows)(hl:pB)(η:AH):Prop where
 inst:∀n∈kG hk al,∃fs,η.get 1 (b+(jj hk al n).j8)=some (.inst 226 fs)/\Hw hk al b (jj hk al n) fs
 front:∀n∈kG hk al,η.get 1 (b+(jj hk al n).mY)=some (.list ((rowOf fl n).map (wA hk al b).m))
 mix:∀n∈kG hk al,η.get 1 (b+(jj hk al n).mU)=some (.list ((uz ml n).map (wA hk al b).m))
 lP:∀n∈kG hk al,match ja hl n with
 |none=>η.get 1 (b+(jj hk al n).ku)=some .jm
 |some h=>MethAt (wA hk al b) nm η n h
 world:∃ws,η.get 1 (b+1)=some (.inst 1054 ws)/\ja ws sE=some (.int (Oc hk al))/\ja ws vV=some (.ref 1 b)/\ja ws vW=some (.ref 1 (b+2))/\ja ws tZ=some (.ref 1 (b+4))/\ja ws rz=none/\ja ws vM=none/\ja ws oZ=none/\ja ws yx=none/\ja ws t5=none
 rJ:η.get 1 (b+2)=some .jm
 made:∃l u,η.get 1 (b+4)=some (.sd l u)/\ja l jW=some ((wA hk al b).m jW)/\ja l jX=some ((wA hk al b).m jX)
 mod:∃l u,η.get 1 (b+45)=some (.sd l u)/\∀x∈l0 hk al,ja l x=some ((wA hk al b).m x)
 act:∃l u,η.get 1 (b+46)=some (.sd l u)/\Oe hk al b l=true
 things:∀x∈[lN,qu,pn,pY],∃fs,η.get 1 (b+wz x)=some (.inst 38 fs)/\ja fs nF=some (Bg hk al b (if x=lN/\hk=true then some j6 else none))/\ja fs lK=some (.ref 1 (b+(jj hk al (Bh x)).j8))
 nat:(nt=kg/\b=0/\η.get 1 0=some .jm)\/(nt≠kg/\b=1/\η.get 1 1=some (.sd [(nt,.ref 1 0)] 0)/\η.get 1 0=some (.sd [(nm,.tup [.none,.int 0,.int 0])] 0))
def nX(L:List AO)(hk:Bool)(al b:Nat)(nm nt:Str):AH:=⟨[L],oz nm nt++hM hk al b⟩
theorem ZR{nt:Str}{b:Nat}(hb:b=lq nt):(oz nm nt).length=b+1:=by
 subst hb
 unfold oz lq
 split<;>rfl
theorem vh{b:Nat}{nt:Str}(hb:b=lq nt)(hi:1<=i):(nX L hk al b nm nt).get 1 (b+i)=(hM hk al b)[i - 1]?:=by
 show (if 1=([L]:List (List AO)).length then (oz nm nt++hM hk al b)[b+i]? else _)=_
 rw [if_pos (by rfl),fk (by rw [ZR hb];exact aa8 hi),ZR hb]
 congr 1
 exact aa9
theorem Bj{α:Type}{l:List α}{f:α->Bool}(h:l.all f=true){x:α}(hx:x∈l):f x=true:=aI.mp h x hx
section
variable{b:Nat}{nt:Str}
theorem ZS(lU:al<4)(hb:b=lq nt):Raw (wA hk al b) (l0 hk al) (b+45) (nX L hk al b nm nt)/\(∀n∈kG hk al,(ja pT n)=none->(nX L hk al b nm nt).get 1 (b+(jj hk al n).mU)=some (.list []))/\∀n∈kG hk al,DG hk al b (hM hk al b) (n,jj hk al n)=true:=by
 have S:=stat hk al lU
 have zf:b=0\/b=1:=by rw [hb];unfold lq;split<;>simp
 have Ck:=ZQ hk al b lU zf
 have cp:∀n∈kG hk al,DG hk al b (hM hk al b) (n,jj hk al n)=true:=λn hn=>Bj Ck.mods (ent S hn)
 have cps:∀n∈kG hk al,(∃fs,(nX L hk al b nm nt).get 1 (b+(jj hk al n).j8)=some (.inst 226 fs)/\Hw hk al b (jj hk al n) fs)/\(nX L hk al b nm nt).get 1 (b+(jj hk al n).mU)=some (.list (((ja pT n).getD []).map λg=>.ref 1 (b+(jj hk al g).j8)))/\(nX L hk al b nm nt).get 1 (b+(jj hk al n).mY)=some (.list [])/\(nX L hk al b nm nt).get 1 (b+(jj hk al n).ku)=some .jm:=λn hn=>by
  have h:=cp n hn
  unfold DG at h
  simp only [aN] at h
  refine zu (S.pos _ (ent S hn)) λp1 p2 p3 p4=>?_
  refine jL (ZL h.1) λfs a a'=>?_
  exact ⟨⟨fs,by rw [vh hb p1];exact a,a'⟩,by rw [vh hb p3];exact ZN h.2.1,by rw [vh hb p2];exact ZM h.2.2.1,by rw [vh hb p4];exact Oa h.2.2.2⟩
 have sp:∀x∈l0 hk al,x∈kG hk al:=S.rU
 refine nY (Hz Ck.mod) λlm um m1 m2=>?_
 refine ⟨⟨⟨⟨lm,um,by rw [vh hb (dc rfl)];exact m1,λx hx=>qi (Bj m2 hx)⟩,λx hx=>?_⟩,?_,?_,?_,?_,λx hx=>(cps x (sp x hx)).2.2.2,λx hx=>(cps x (sp x hx)).2.2.1⟩,λn hn hw=>?_,cp⟩
 ·refine jB (cps x (sp x hx)) λo7 J=>?_
  obtain ⟨fs,a,a'⟩:=o7
  exact ⟨fs,a,a'.front,a'.mix,a'.lP⟩
 ·intro x hx y hy e
  exact ya S (f:=MI.ku) S.As (sp x hx) (sp y hy) (bz e)
 ·intro x hx y hy e
  exact ya S (f:=MI.mY) S.ZF (sp x hx) (sp y hy) (bz e)
 ·intro x hx y hy e
  exact ya S (f:=MI.mU) S.ZG (sp x hx) (sp y hy) (bz e)
 ·intro x hx y hy e
  exact (S.apart _ (ent S (sp x hx)) _ (ent S (sp y hy))).2.2.2.1 (bz e)
 ·rw [(cps n hn).2.1,hw]
  rfl
end
end
section
theorem Og{α:Type}{l:List (Str×α)}{x:Str}(h:x∉l.map az):ja l x=none:=by
 induction hg:ja l x using Option.casesOn with
|none=>rfl
|some v=>exact absurd (aQ.mpr ⟨_,qH hg,rfl⟩) h
theorem zl(S:Stat hk al)(ok:ou hk al fl){p:Str×Nat×List Str}(hp:p∈fl):p.1∈l0 hk al/\(∀g∈p.2.2,g∈l0 hk al)/\p.2.2.length<=2:=by
 have m:=S.mn
 rcases ok.ok p hp with ⟨h1,h2⟩|⟨h1,h2⟩
 ·refine ⟨S.goals _ h1,?_,?_⟩
  ·intro g hg
   rcases h2 with h2|h2|h2|h2<;>rw [h2] at hg<;>simp only [aB,aU,or_false] at hg
   ·rw [hg];exact m.1
   ·rw [hg];exact m.2.1
   ·rcases hg with hg|hg<;>rw [hg];exact m.1;exact m.2.1
   ·rcases hg with hg|hg<;>rw [hg];exact m.2.1;exact m.1
  ·rcases h2 with h2|h2|h2|h2<;>rw [h2]<;>simp
 ·rw [h1,h2]
  exact ⟨m.1,λg hg=>by rw [aJ.mp hg];exact m.2.1,by simp⟩
section
variable{b:Nat}{nt f:Str}
set_option tactic.hygienic true in
theorem aoP(lU:al<4)(hb:b=lq nt)(ux:ou hk al fl)(rV:ou hk al ml)(rW:uv (l0 hk al) nt (vf nm nt) hl)(D:Dn (wA hk al b) (l0 hk al) nm fl ml hl (nX L hk al b nm nt) η):Fin hk al b nm nt fl ml hl η:=by
 have S:=stat hk al lU
 have zf:b=0\/b=1:=by rw [hb];unfold lq;split<;>simp
 have Ck:=ZQ hk al b lU zf
 obtain ⟨_,_,cp⟩:=ZS (L:=L) (nm:=nm) lU hb
 have cps:∀n∈kG hk al,(∃fs,(nX L hk al b nm nt).get 1 (b+(jj hk al n).j8)=some (.inst 226 fs)/\Hw hk al b (jj hk al n) fs)/\(nX L hk al b nm nt).get 1 (b+(jj hk al n).mU)=some (.list (((ja pT n).getD []).map λg=>.ref 1 (b+(jj hk al g).j8)))/\(nX L hk al b nm nt).get 1 (b+(jj hk al n).mY)=some (.list [])/\(nX L hk al b nm nt).get 1 (b+(jj hk al n).ku)=some .jm:=λn hn=>by
  have h:=cp n hn
  unfold DG at h
  simp only [aN] at h
  refine zu (S.pos _ (ent S hn)) λp1 p2 p3 p4=>?_
  refine jL (ZL h.1) λfs a a'=>?_
  exact ⟨⟨fs,by rw [vh hb p1];exact a,a'⟩,by rw [vh hb p3];exact ZN h.2.1,by rw [vh hb p2];exact ZM h.2.2.1,by rw [vh hb p4];exact Oa h.2.2.2⟩
 have kF:∀p∈fl,p.1∈kG hk al:=λp hp=>S.rU _ (zl S ux hp).1
 have kM:∀p∈ml,p.1∈kG hk al:=λp hp=>S.rU _ (zl S rV hp).1
 have keep:∀(i:Nat) (o:AO),(∀n∈kG hk al,n∈fl.map az->i≠(jj hk al n).mY)->(∀n∈kG hk al,n∈ml.map az->i≠(jj hk al n).mU)->(∀n∈kG hk al,n∈l0 hk al->i≠(jj hk al n).ku)->(nX L hk al b nm nt).get 1 (b+i)=some o->η.get 1 (b+i)=some o:=λi o h1 h2 h3 e=>by
  refine D.kn.get _ _ _ ?_ e
  rintro ⟨_,⟨p,hp,e⟩|⟨p,hp,e⟩|⟨x,hx,e⟩⟩
  ·exact h1 _ (kF p hp) (aQ.mpr ⟨p,hp,rfl⟩) (bz e)
  ·exact h2 _ (kM p hp) (aQ.mpr ⟨p,hp,rfl⟩) (bz e)
  ·exact h3 _ (S.rU x hx) hx (bz e)
 have low:∀(i:Nat) (o:AO),i∈[1,2,4,45,46,107,109,111,113]->(hM hk al b)[i - 1]?=some o->1<=i->η.get 1 (b+i)=some o:=λi o hi e h1=>by
  refine keep i o (λn hn J e=>?_) (λn hn J e=>?_) (λn hn J e=>?_) (by rw [vh hb h1];exact e)
  ·exact (S.low _ (ent S hn) i hi).2.2.1 e.symm
  ·exact (S.low _ (ent S hn) i hi).2.2.2 e.symm
  ·exact (S.low _ (ent S hn) i hi).2.1 e.symm
 refine ⟨λn hn=>?_,λn hn=>?_,λn hn=>?_,λn hn=>?_,?_,low 2 _ (by simp) (Oa Ck.rJ) (dc rfl),?_,?_,?_,λx hx=>?_,?_⟩
 ·refine jB (cps n hn) λlH J=>?_
  obtain ⟨fs,a,a'⟩:=lH
  refine ⟨fs,keep _ _ (λm hm J e=>?_) (λm hm J e=>?_) (λm hm J e=>?_) a,a'⟩
  ·exact (S.apart _ (ent S hn) _ (ent S hm)).1 e
  ·exact (S.apart _ (ent S hn) _ (ent S hm)).2.1 e
  ·exact (S.apart _ (ent S hn) _ (ent S hm)).2.2.1 e
 ·by_cases lE:n∈fl.map az
  ·refine jL (aQ.mp lE) λp hp o7=>?_
   obtain rfl:=o7
   have:=D.front p hp
   unfold rowOf
   rw [DC ux.nodup hp]
   exact this
  ·have e0:rowOf fl n=[]:=by unfold rowOf;rw [Og lE]
   rw [e0]
   refine keep _ _ (λm hm s5 e=>?_) (λm hm J e=>?_) (λm hm J e=>?_) (cps n hn).2.2.1
   ·exact lE (by rw [ya S (f:=MI.mY) S.ZF hn hm e];exact s5)
   ·exact (S.apart _ (ent S hn) _ (ent S hm)).2.2.2.1 e
   ·exact (S.apart _ (ent S hn) _ (ent S hm)).2.2.2.2.1 e
 ·by_cases lE:n∈ml.map az
  ·refine jL (aQ.mp lE) λp hp v7=>?_
   obtain rfl:=v7
   have:=D.mix p hp
   unfold uz
   rw [DC rV.nodup hp]
   exact this
  ·have e0:uz ml n=(ja pT n).getD []:=by unfold uz;rw [Og lE]
   rw [e0]
   refine keep _ _ (λm hm J e=>?_) (λm hm s5 e=>?_) (λm hm J e=>?_) (cps n hn).2.1
   ·exact (S.apart _ (ent S hm) _ (ent S hn)).2.2.2.1 e.symm
   ·exact lE (by rw [ya S (f:=MI.mU) S.ZG hn hm e];exact s5)
   ·exact (S.apart _ (ent S hn) _ (ent S hm)).2.2.2.2.2 e
 ·induction hg:ja hl n using Option.casesOn with
 |some h=>exact D.lP _ (qH hg)
 |none=>
   have hnk:n∉hl.map az:=λh=>by
    refine jL (aQ.mp h) λp hp CM=>?_
    obtain rfl:=CM
    rw [DE rW.nodup hp] at hg
    exact xm hg
   by_cases xQ:n∈l0 hk al
   ·exact D.rest n xQ hnk
   ·refine keep _ _ (λm hm J e=>?_) (λm hm J e=>?_) (λm hm s5 e=>?_) (cps n hn).2.2.2
    ·exact (S.apart _ (ent S hm) _ (ent S hn)).2.2.2.2.1 e.symm
    ·exact (S.apart _ (ent S hm) _ (ent S hn)).2.2.2.2.2 e.symm
    ·exact xQ (by rw [ya S (f:=MI.ku) S.As hn hm e];exact s5)
 ·have h:=Ck.world
  unfold ZP at h
  split at h
  ·rename_i c ws hw
   simp only [aN] at h
   refine aeE (h) λh1 h2 h3 h4 h5 h6=>?_
   unfold ZO at h6
   simp only [aN,ek] at h6
   rw [aP h1] at hw
   exact ⟨ws,low 1 _ (by simp) hw (dc rfl),N6 h2,qi h3,qi h4,qi h5,h6.1,h6.2.1,h6.2.2.1,h6.2.2.2.1,h6.2.2.2.2⟩
  ·exact xf h
 ·refine nY (Hz Ck.made) λl u a c=>?_
  rw [aN] at c
  exact yf l u (low 4 _ (by simp) a (dc rfl)) (qi c.1) (qi c.2)
 ·refine nY (Hz Ck.mod) λl u a c=>?_
  exact ye l u (low 45 _ (by simp) a (dc rfl)) (λx hx=>qi (Bj c hx))
 ·refine nY (Hz Ck.act) λl u a c=>?_
  exact ye l u (low 46 _ (by simp) a (dc rfl)) c
 ·refine vo (aoO (Bj Ck.things hx)) λfs a c d=>?_
  have ht:wz x∈[1,2,4,45,46,107,109,111,113]/\1<=wz x:=by
   unfold wz
   split
   ·simp
   ·split
    ·simp
    ·split<;>simp
  exact ⟨fs,low _ _ ht.1 a ht.2,c,d⟩
 ·have zero:∀i o,i<=b->(nX L hk al b nm nt).get 1 i=some o->η.get 1 i=some o:=λi o hi e=>by
   refine D.kn.get _ _ _ ?_ e
   rintro ⟨_,⟨p,hp,e⟩|⟨p,hp,e⟩|⟨x,hx,e⟩⟩
   ·have:1<=(jj hk al p.1).mY:=(S.pos _ (ent S (kF p hp))).2.1
    have e:i=b+(jj hk al p.1).mY:=e
    exact Ig hi this e
   ·have:1<=(jj hk al p.1).mU:=(S.pos _ (ent S (kM p hp))).2.2.1
    have e:i=b+(jj hk al p.1).mU:=e
    exact Ig hi this e
   ·have:1<=(jj hk al x).ku:=(S.pos _ (ent S (S.rU x hx))).2.2.2
    have e:i=b+(jj hk al x).ku:=e
    exact Ig hi this e
  by_cases m6:nt=kg
  ·have b0:b=0:=by rw [hb];unfold lq;rw [if_pos m6]
   refine .inl ⟨m6,b0,zero 0 _ (PY) ?_⟩
   unfold nX oz
   rw [if_pos m6]
   rfl
  ·have b1:b=1:=by rw [hb];unfold lq;rw [if_neg m6]
   refine .inr ⟨m6,b1,zero 1 _ (aev b1) ?_,zero 0 _ (PY) ?_⟩
   ·unfold nX oz
    rw [if_neg m6]
    rfl
   ·unfold nX oz
    rw [if_neg m6]
    rfl
end
end
section
def wB(hk:Bool)(al b:Nat)(nm nt:Str)(fl ml:Rows)(hl:pB)(η:AH)(ln:Str->List Str):Cfg where
 ns:=kG hk al
 j8 n:=b+(jj hk al n).j8
 num n:=(jj hk al n).num
 cls n:=(jj hk al n).cls
 jt n:=(jj hk al n).jt
 mS n:=(jj hk al n).mS
 own n:=(jj hk al n).own
 owner n:=(jj hk al n).owner
 nat n:=zk (jj hk al n).nat
 front n:=rowOf fl n
 mix n:=uz ml n
 mY n:=b+(jj hk al n).mY
 mU n:=b+(jj hk al n).mU
 ku n:=b+(jj hk al n).ku
 has n:=ja hl n
 name:=nm
 native:=nt
 line:=ln
 depth n:=(jj hk al n).depth
 rank n:=(jj hk al n).rank
 jI:=b+1
 pC:=Oc hk al
 sQ:=b
 CJ:=0
 rJ:=b+2
 made:=b+4
 fix i:=if (tM hk al).any (λp=>aj i (b+p.2.j8) || aj i (b+p.2.ku)) then none else η.get 1 i
theorem ZT{C C':Cfg}(h1:C.front=C'.front)(h2:C.mix=C'.mix):∀f,C.visit f=C'.visit f
|0=>rfl
|f+1=>by
  funext s g
  unfold Cfg.visit
  rw [h1,h2,ZT h1 h2 f]
theorem aoQ{C':Cfg}(h1:C.front=C'.front)(h2:C.mix=C'.mix)(n:Str)(b:List Str):C.oU n b=C'.oU n b:=by
 unfold Cfg.oU Cfg.mZ
 rw [h1,h2,ZT h1 h2]
def yb(C:Cfg):Nat->Str->List Str
|0,_=>[]
|f+1,n=>C.oU n (match C.jt n with
 |none=>[]
 |some p=>yb C f p)
theorem ZU{C:Cfg}(h:∀n∈C.ns,∀p,C.jt n=some p->p∈C.ns/\C.depth p<C.depth n):∀(f f':Nat) (n:Str),n∈C.ns->C.depth n<f->C.depth n<f'->yb C f n=yb C f' n
|0,_,_,_,h1,_=>absurd h1 (uA)
|_,0,_,_,_,h1=>absurd h1 (uA)
|f+1,f'+1,n,hn,h1,h2=>by
  unfold yb
  induction hp:C.jt n using Option.casesOn with
 |none=>rfl
 |some p=>
   have:=h n hn p hp
   dsimp only
   rw [ZU h f f' p this.1 (qJ (by assumption) this.2) (qJ (by assumption) this.2)]
def mJ(hk:Bool)(al b:Nat)(nm nt:Str)(fl ml:Rows)(hl:pB)(η:AH):Cfg:=
 wB hk al b nm nt fl ml hl η (yb (wB hk al b nm nt fl ml hl η λJ=>[]) 12)
theorem ZV{hk:Bool}{al b:Nat}{nm nt:Str}{fl ml:Rows}{hl:pB}{η:AH}:∀(f:Nat) (n:Str),rK (mJ hk al b nm nt fl ml hl η) f n=Hq hk al f n
|0,_=>rfl
|f+1,n=>by
  show (if (jj hk al n).mS=true then match (jj hk al n).jt with
  |some p=>rK (mJ hk al b nm nt fl ml hl η) f p
  |none=>n
   else n)=_
  unfold Hq
  induction (jj hk al n).jt using Option.casesOn with
 |none=>rfl
 |some p=>dsimp only;rw [ZV f p]
theorem Oh{hk:Bool}{al b:Nat}{nm nt:Str}{fl ml:Rows}{hl:pB}{η:AH}:∀(f:Nat) (o:Option Str),wi (mJ hk al b nm nt fl ml hl η) f o=Hr hk al f o
|0,_=>rfl
|f+1,none=>rfl
|f+1,some p=>by
  show (match (jj hk al p).own with
  |some x=>some x
  |none=>wi (mJ hk al b nm nt fl ml hl η) f (jj hk al p).jt)=_
  unfold Hr
  split
  ·rename_i h;first|rw [h]|rfl
  ·rename_i h;first|(rw [h];exact Oh f _)|exact Oh f _
theorem aoR{b:Nat}{nt:Str}(n:Str):uW (mJ hk al b nm nt fl ml hl η) n=ZE hk al n:=by
 show (match (jj hk al n).own with
 |some x=>x
 |none=>(if (jj hk al n).cls=true/\(jj hk al n).mS=false then wi (mJ hk al b nm nt fl ml hl η) 11 (jj hk al n).jt else none).getD (jj hk al n).owner)=_
 rw [Oh]
 rfl
theorem aoS{b:Nat}{nt:Str}(o:Str):qW (mJ hk al b nm nt fl ml hl η) o=ZD hk al o:=by
 show (if (jj hk al o).cls=true then rK (mJ hk al b nm nt fl ml hl η) 11 o else o)=_
 rw [ZV]
 rfl
theorem aoT(S:Stat hk al){p q:Str×MI}(hp:p∈tM hk al)(hq:q∈tM hk al)(e:p.1=q.1:=by rfl):p=q:=by
 have nd:=S.nodup
 unfold kG at nd
 rw [fy] at nd
 exact HC (f:=λp:Str×MI=>p.1) nd hp hq e
section
variable{b:Nat}{nt f:Str}
theorem ZW(S:Stat hk al){ln:Str->List Str}(h:∀n∈kG hk al,i≠b+(jj hk al n).j8/\i≠b+(jj hk al n).ku):(wB hk al b nm nt fl ml hl η ln).fix i=η.get 1 i:=by
 show (if (tM hk al).any (λp=>aj i (b+p.2.j8) || aj i (b+p.2.ku)) then none else η.get 1 i)=_
 rw [if_neg]
 intro hc
 rw [c9] at hc
 refine jL (hc) λp hp hb=>?_
 have hn:p.1∈kG hk al:=aQ.mpr ⟨p,hp,rfl⟩
 have he:=ent S hn
 have:p.2=jj hk al p.1:=by
  have:=aoT S hp he
  exact congrArg cP this
 rw [this,bC] at hb
 rcases hb with hb|hb
 ·exact (h _ hn).1 (aP hb)
 ·exact (h _ hn).2 (aP hb)
end
end
section
section
variable{b:Nat}{nt f:Str}
theorem Oi(S:Stat hk al)(ok:ou hk al fl)(hg:g∈rowOf fl n):g∈kG hk al/\(jj hk al g).rank<(jj hk al n).rank/\(jj hk al g).jt=none:=by
 have m:=S.mn
 unfold rowOf at hg
 cases hr:ja fl n with
|none=>rw [hr] at hg;cases hg
|some p=>
  rw [hr] at hg
  dsimp only at hg
  have hp:=qH hr
  have gg:g=jN\/g=lg:=by
   rcases ok.ok _ hp with ⟨_,h2⟩|⟨_,h2⟩
   ·rcases h2 with h2|h2|h2|h2<;>dsimp only at h2<;>rw [h2] at hg<;>simp only [aB,aU,or_false] at hg
    ·exact .inl hg
    ·exact .inr hg
    ·exact hg
    ·exact hg.symm
   ·dsimp only at h2
    rw [h2] at hg
    exact .inr (aJ.mp hg)
  have gn:g∈kG hk al/\(jj hk al g).jt=none:=by
   rcases gg with rfl|rfl
   ·exact ⟨S.rU _ m.1,m.2.2.2.2.1⟩
   ·exact ⟨S.rU _ m.2.1,m.2.2.2.2.2⟩
  refine ⟨gn.1,?_,gn.2⟩
  rcases ok.ok _ hp with ⟨h1,_⟩|⟨h1,h2⟩
  ·have h1:n∈u6 hk al:=h1
   have:=(S.aoH n h1).2
   rcases gg with rfl|rfl
   ·rw [this,m.2.2.1];decide
   ·rw [this,m.2.2.2.1];decide
  ·have h1:n=jN:=h1
   dsimp only at h2
   rw [h2] at hg
   rw [aJ.mp hg,h1,m.2.2.1,m.2.2.2.1]
   decide
theorem aoU(S:Stat hk al)(ok:ou hk al fl)(n:Str):(rowOf fl n).length<=2:=by
 unfold rowOf
 cases hr:ja fl n with
|none=>simp
|some p=>exact (zl S ok (qH hr)).2.2
theorem ZX(S:Stat hk al)(ok:ou hk al ml)(hg:g∈uz ml n):g∈kG hk al/\(jj hk al g).rank<(jj hk al n).rank/\(jj hk al g).jt=none:=by
 unfold uz at hg
 cases hr:ja ml n with
|some p=>
  rw [hr] at hg
  refine Oi S ok (n:=n) ?_
  unfold rowOf
  rw [hr]
  exact hg
|none=>
  rw [hr] at hg
  dsimp only at hg
  cases hw:ja pT n with
 |none=>rw [hw] at hg;cases hg
 |some l=>
   rw [hw] at hg
   have h:=S.within _ (qH hw)
   refine pF (h.2.2 g hg) λa b c=>?_
   have h1:(jj hk al n).rank=2:=h.1
   exact ⟨a,by exact abe b h1,c⟩
theorem aoV(S:Stat hk al)(ok:ou hk al ml)(n:Str):(uz ml n).length<=2:=by
 unfold uz
 cases hr:ja ml n with
|some p=>exact (zl S ok (qH hr)).2.2
|none=>
  dsimp only
  cases hw:ja pT n with
 |none=>simp
 |some l=>exact (S.within _ (qH hw)).2.1
theorem aoW(nm nt:Str):vf nm nt=nj\/vf nm nt=kh:=by unfold vf;split;exact .inl rfl;exact .inr rfl
theorem aoX(lU:al<4)(ux:ou hk al fl)(rV:ou hk al ml)(rW:uv (l0 hk al) nt (vf nm nt) hl)(AG:nm=B6\/nm=t4\/nm=tX)(m6:nt=kg\/nt=j0\/nt=jW\/nt=jX)(Fi:Fin hk al b nm nt fl ml hl η):lD (mJ hk al b nm nt fl ml hl η):=by
 have S:=stat hk al lU
 have ff:∀i,(∀n∈kG hk al,i≠b+(jj hk al n).j8/\i≠b+(jj hk al n).ku)->(mJ hk al b nm nt fl ml hl η).fix i=η.get 1 i:=λi h=>ZW S h
 have jt:∀n∈kG hk al,∀p,(jj hk al n).jt=some p->p∈kG hk al/\(jj hk al p).depth<(jj hk al n).depth:=λn hn p hp=>by
  have:=S.jt _ (ent S hn)
  dsimp only at this
  rw [hp] at this
  simpa using this
 have lows:∀i∈[1,2,4,45,46,107,109,111,113],∀n∈kG hk al,b+i≠b+(jj hk al n).j8/\b+i≠b+(jj hk al n).ku:=λi hi n hn=>by
  have:=S.low _ (ent S hn) i hi
  dsimp only at this
  exact Ou this
 have zero:∀i,i<=b->∀n∈kG hk al,i≠b+(jj hk al n).j8/\i≠b+(jj hk al n).ku:=λi hi n hn=>by
  have:=S.pos _ (ent S hn)
  dsimp only at this
  exact abf hi this
 have nin:∀n∈kG hk al,ja hl n=none->nt=kg\/zk (jj hk al n).nat≠.str nt:=λn hn hh=>by
  by_cases h:nt=kg
  ·exact .inl h
  ·refine .inr λe=>?_
   have hs:nt∈[j0,jW,jX]:=by simpa using m6.resolve_left h
   have Bf:(jj hk al n).nat=some nt:=by
    cases hx:(jj hk al n).nat with
   |none=>rw [hx] at e;cases e
   |some s=>rw [hx] at e;cases e;rfl
   have:=S.nat _ (ent S hn) nt hs Bf
   dsimp only at this
   rw [this] at hh
   refine jL (aQ.mp (rW.nt h)) λp hp e=>?_
   rw [<-e,DE rW.nodup hp] at hh
   exact xm hh
 exact {
  jt:=jt
  deep:=λn hn=>S.deep _ (ent S hn)
  FU:=λn hn h=>by
   have:=S.FU _ (ent S hn) h
   dsimp only at this
   exact cz.mp this
  own:=λn hn p hp=>by
   have:=S.own _ (ent S hn)
   dsimp only at this
   have hp:(jj hk al n).own=some p:=hp
   rw [hp] at this
   have aoY:p∈kG hk al:=by simpa using this
   exact aoY
  owner:=λn hn=>S.owner _ (ent S hn)
  front:=λn hn g hg=>by
   have:=Oi S ux hg
   exact ⟨this.1,this.2.1⟩
  mix:=λn hn g hg=>by
   have:=ZX S rV hg
   exact ⟨this.1,this.2.1⟩
  few:=S.few
  rank:=λn hn=>S.rank _ (ent S hn)
  WZ:=λn hn g hg=>by
   rcases hg with hg|hg
   ·exact (Oi S ux hg).2.2
   ·exact (ZX S rV hg).2.2
  Ao:=λn hn=>aoU S ux n
  Aq:=λn hn=>aoV S rV n
  line:=λn hn=>by
   show yb (wB hk al b nm nt fl ml hl η λJ=>[]) 12 n=Cfg.oU (mJ hk al b nm nt fl ml hl η) n (match (jj hk al n).jt with|none=>[]|some p=>yb (wB hk al b nm nt fl ml hl η λJ=>[]) 12 p)
   rw [aoQ (C:=mJ hk al b nm nt fl ml hl η) (C':=wB hk al b nm nt fl ml hl η λJ=>[]) rfl rfl]
   show Cfg.oU (wB hk al b nm nt fl ml hl η λJ=>[]) n (match (jj hk al n).jt with|none=>[]|some p=>yb (wB hk al b nm nt fl ml hl η λJ=>[]) 11 p)=_
   cases hp:(jj hk al n).jt with
  |none=>rfl
  |some p=>
    dsimp only
    refine jB (jt n hn p hp) λh1 h2=>?_
    have h3:(jj hk al n).depth<10:=S.deep _ (ent S hn)
    rw [ZU (C:=wB hk al b nm nt fl ml hl η λJ=>[]) jt 11 12 p h1 (by show (jj hk al p).depth<11;exact abg h2 h3) (by show (jj hk al p).depth<12;exact abh h2 h3)]
  Ar:=λx hx y hy e=>by
   exact congrArg az (HC (f:=λp:Str×MI=>p.2.num) S.Ar (ent S hx) (ent S hy) e)
  FW:=λx hx y hy e=>ya S (f:=MI.j8) S.FW hx hy (bz e)
  As:=λx hx y hy e=>ya S (f:=MI.ku) S.As hx hy (bz e)
  W2:=λn hn=>by
   show (if (tM hk al).any (λp=>aj (b+(jj hk al n).j8) (b+p.2.j8) || aj (b+(jj hk al n).j8) (b+p.2.ku)) then none else η.get 1 _)=none
   rw [if_pos]
   refine c9.mpr ⟨_,ent S hn,?_⟩
   simp
  W3:=λn hn=>by
   show (if (tM hk al).any (λp=>aj (b+(jj hk al n).ku) (b+p.2.j8) || aj (b+(jj hk al n).ku) (b+p.2.ku)) then none else η.get 1 _)=none
   rw [if_pos]
   refine c9.mpr ⟨_,ent S hn,?_⟩
   simp
  Au:=λn hn=>by
   rw [show (mJ hk al b nm nt fl ml hl η).mU n=b+(jj hk al n).mU from rfl,ff]
   ·exact Fi.mix n hn
   ·intro m hm
    exact ⟨λe=>(S.apart _ (ent S hm) _ (ent S hn)).2.1 (bz e).symm,λe=>(S.apart _ (ent S hn) _ (ent S hm)).2.2.2.2.2 (bz e)⟩
  Av:=λn hn=>by
   rw [show (mJ hk al b nm nt fl ml hl η).mY n=b+(jj hk al n).mY from rfl,ff]
   ·exact Fi.front n hn
   ·intro m hm
    exact ⟨λe=>(S.apart _ (ent S hm) _ (ent S hn)).1 (bz e).symm,λe=>(S.apart _ (ent S hn) _ (ent S hm)).2.2.2.2.1 (bz e)⟩
  jI:=by
   refine oK (Fi.world) λws h=>?_
   refine ⟨ws,?_,h.2⟩
   rw [show (mJ hk al b nm nt fl ml hl η).jI=b+1 from rfl,ff _ (lows 1 (by simp))]
   exact h.1
  made:=by
   refine wD (Fi.made) λl u h=>?_
   refine ye l u ?_ h.2
   rw [show (mJ hk al b nm nt fl ml hl η).made=b+4 from rfl,ff _ (lows 4 (by simp))]
   exact h.1
  LY:=⟨S.Hs.1,S.Hs.2.1⟩
  rJ:=by
   rw [show (mJ hk al b nm nt fl ml hl η).rJ=b+2 from rfl,ff _ (lows 2 (by simp))]
   exact Fi.rJ
  sQ:=by
   rcases Fi.nat with ⟨h1,rfl,h3⟩|⟨h1,rfl,h3,h4⟩
   ·refine .inl ⟨h1,?_⟩
    rw [show (mJ hk al 0 nm nt fl ml hl η).sQ=0 from rfl,ff _ (zero 0 (dc rfl))]
    exact h3
   ·refine .inr ⟨h1,0,0,?_,?_⟩
    ·rw [show (mJ hk al 1 nm nt fl ml hl η).sQ=1 from rfl,ff _ (zero 1 (dc rfl))]
     exact h3
    ·rw [show (mJ hk al 1 nm nt fl ml hl η).CJ=0 from rfl,ff _ (zero 0 (dc rfl))]
     exact h4
  LZ:=λn hn=>by
   cases hx:(jj hk al n).nat with
  |none=>exact .inl (by show zk (jj hk al n).nat=_;rw [hx];rfl)
  |some s=>
    refine .inr ⟨s,by show zk (jj hk al n).nat=_;rw [hx];rfl,?_⟩
    by_cases h:s=nt
    ·exact .inl h
    ·right
     show sq nt s=false
     cases hq:sq nt s with
    |false=>rfl
    |true=>exact absurd (jS.mp hq).symm h
  W4:=nin
  oN:=λn hn s g o h=>by
   have h:ja hl n=some (s,g,o):=h
   refine jB (rW.ok _ (qH h)) λh1 h2=>?_
   dsimp only at h1 h2
   rcases h2 with ⟨a,c,d⟩|⟨a,c,d,e,k⟩
   ·refine ⟨S.rU _ d,?_⟩
    rcases a with a|a|a
    ·exact .inl a
    ·exact .inr (.inl a)
    ·exact .inr (.inr (.inl a))
   ·subst d
    refine ⟨S.rU _ h1,.inr (.inr (.inr ⟨a,rfl,k,?_,c⟩))⟩
    show zk (jj hk al o).nat=.str nt
    have hs:nt∈[j0,jW,jX]:=by simpa using m6.resolve_left k
    rw [e,S.aoJ nt hs]
    rfl
  names:=AG
  wg:=m6 }
end
end
section
theorem aoZ(O:lD C){c p:Str}(hc:c∈C.ns)(hp:C.jt c=some p):2<=(C.line c).length:=by
 have hb:=Yb O hc
 rw [hp] at hb
 have Mi:=(O.jt c hc p hp)
 have L1:=Gx O 11 0 (some c) (λx h=>by cases h;exact ⟨hc,by have:=O.deep c hc;exact HK this⟩)
 have L2:=Gx O 10 1 (some p) (λx h=>by cases h;exact ⟨Mi.1,by have:=O.deep p Mi.1;assumption⟩)
 have hcs:=Gv O (C:=C) (x:=c)
 have hps:=Gv O (C:=C) (x:=p)
 have m1:c∈C.line c:=by
  rw [show C.line c=C.qe (some c) from rfl,<-L1.mem,AR,if_pos hcs]
  split
  ·rfl
  ·split<;>rfl
 have mp:p∈C.qe (some p):=by
  rw [<-L2.mem,AR,if_pos hps]
  split
  ·rfl
  ·split<;>rfl
 have hs:(nM C 10 1 (some p) p).isSome=true:=(L2.mem p).mpr mp
 have m2:p∈C.line c:=by
  rw [show C.line c=C.qe (some c) from rfl,<-L1.mem,AR,hp]
  split
  ·split
   ·rfl
   ·cases h:nM C 10 1 (some p) p with
   |none=>rw [h] at hs;cases hs
   |some s=>rfl
  ·exact hs
 have mh:c≠p:=λe=>hb (by rw [<-e] at mp ⊢;exact mp)
 match hl:C.line c,m1,m2 with
|[],h,_=>cases h
|[x],h,h'=>
  exfalso
  rw [aJ] at h h'
  exact mh (h.trans h'.symm)
|x::y::r,_,_=>simp
def tu(hk:Bool)(al:Nat)(nm nt f:Str)(fl ml:Rows)(hl:pB)(ji:AH):Bk where
 above x:=ja (oq hk al) x
 front x:=(ja fl x).map (·.2)
 mix x:=(ja ml x).map (·.2)
 has x:=ja hl x
 name:=nm
 native:=nt
 first:=f
 bk:=9
 ab:=5
 fr:=6
 mx:=7
 hs:=8
 fix i:=if i=1 then none else ji.get 0 i
section
variable{b:Nat}{nt f:Str}
theorem ao0(R:lY ji i fl)(hi:i≠1):Gl (tu hk al nm nt f fl ml hl ji).fix i λx=>(ja fl x).map (·.2):=by
 have fx:∀j,j≠1->(tu hk al nm nt f fl ml hl ji).fix j=ji.get 0 j:=λj hj=>if_neg hj
 rcases R.at_ with ⟨rfl,h⟩|⟨u,h⟩
 ·exact .inl ⟨by rw [fx i hi];exact h,λx=>rfl⟩
 ·refine .inr ⟨_,u,by rw [fx i hi];exact h,λx=>?_⟩
  show (_/\(ja fl x).map (·.2)=none)\/∃j l,_/\(ja fl x).map (·.2)=some l/\_
  rw [Du]
  cases hg:ja fl x with
 |none=>exact .inl ⟨rfl,rfl⟩
 |some p=>
   have:=R.row _ (qH hg)
   exact .inr ⟨p.1,p.2,rfl,rfl,by rw [fx _ (by have:=this.1;dsimp only at this;exact Bp this)];exact this.2⟩
theorem ao1(A:zj hk al nm nt f fl ml hl ji):s6 (tu hk al nm nt f fl ml hl ji):=by
 have fx:∀j,j≠1->(tu hk al nm nt f fl ml hl ji).fix j=ji.get 0 j:=λj hj=>if_neg hj
 refine ⟨?_,?_,?_,?_,?_,rfl⟩
 ·refine nY (A.bk) λd u h h'=>?_
  exact ye d u (by rw [show (tu hk al nm nt f fl ml hl ji).bk=9 from rfl,fx 9 (dc rfl)];exact h) h'
 ·refine oK (A.above) λu h=>?_
  refine ye _ u (by rw [show (tu hk al nm nt f fl ml hl ji).ab=5 from rfl,fx 5 (dc rfl)];exact h) (λx=>AY wj _ x)
 ·have:=ao0 (hk:=hk) (al:=al) (nm:=nm) (nt:=nt) (f:=f) (ml:=ml) (hl:=hl) A.front (dc rfl)
  exact this
 ·have R:=A.mixed
  rcases R.at_ with ⟨h0,h⟩|⟨u,h⟩
  ·subst h0
   exact .inl ⟨by rw [show (tu hk al nm nt f fl [] hl ji).mx=7 from rfl,fx 7 (dc rfl)];exact h,λx=>rfl⟩
  ·refine .inr ⟨_,u,by rw [show (tu hk al nm nt f fl ml hl ji).mx=7 from rfl,fx 7 (dc rfl)];exact h,λx=>?_⟩
   show (_/\(ja ml x).map (·.2)=none)\/∃j l,_/\(ja ml x).map (·.2)=some l/\_
   rw [Du]
   cases hg:ja ml x with
  |none=>exact .inl ⟨rfl,rfl⟩
  |some p=>
    have:=R.row _ (qH hg)
    exact .inr ⟨p.1,p.2,rfl,rfl,by rw [fx _ (by have:=this.1;dsimp only at this;exact Bp this)];exact this.2⟩
 ·rcases A.has with ⟨h,_⟩|⟨u,h⟩
  ·exact absurd h A.mh
  ·exact ye _ u (by rw [show (tu hk al nm nt f fl ml hl ji).hs=8 from rfl,fx 8 (dc rfl)];exact h) (λx=>Zy hl x)
theorem ao2(lU:al<4):CB (mJ hk al b nm nt fl ml hl η) (tu hk al nm nt f fl ml hl ji):=by
 have S:=stat hk al lU
 refine ⟨λx J=>?_,λx J=>?_,λx J=>rfl,λx hx=>S.above _ (ent S hx),rfl⟩
 ·show rowOf fl x=((ja fl x).map (·.2)).getD []
  unfold rowOf
  cases ja fl x<;>rfl
 ·show uz ml x=((ja ml x).map (·.2)).getD _
  unfold uz
  cases ja ml x<;>rfl
theorem Fin.congr(h:∀r i,iY.get r i=η.get r i)(F:Fin hk al b nm nt fl ml hl η):Fin hk al b nm nt fl ml hl iY:=by
 refine ⟨?_,?_,?_,λn hn=>?_,?_,?_,?_,?_,?_,?_,?_⟩
 ·simpa only [h] using F.inst
 ·simpa only [h] using F.front
 ·simpa only [h] using F.mix
 ·have:=F.lP n hn
  cases hg:ja hl n with
 |none=>rw [hg] at this;dsimp only at this ⊢;rw [h];exact this
 |some x=>
   rw [hg] at this
   dsimp only at this ⊢
   unfold MethAt at this ⊢
   simpa only [h] using this
 ·simpa only [h] using F.world
 ·simpa only [h] using F.rJ
 ·simpa only [h] using F.made
 ·simpa only [h] using F.mod
 ·simpa only [h] using F.act
 ·simpa only [h] using F.things
 ·simpa only [h] using F.nat
theorem Oj(o:Option Str):(mJ hk al b nm nt fl ml hl η).opt o=Bg hk al b o:=by cases o<;>rfl
theorem ao3(lU:al<4)(F:Fin hk al b nm nt fl ml hl η)(hr:η.reg=2):WF (mJ hk al b nm nt fl ml hl η) η:=by
 refine ⟨hr,λn hn=>?_,λn hn=>?_,λi o h=>?_⟩
 ·refine jL (F.inst n hn) λfs a I=>?_
  refine ⟨fs,a,⟨I.num,I.cls,?_,I.mS,?_,I.owner,I.nat,I.mix,I.front,I.lP,⟨.none,I.kept,.inl rfl⟩,I.CL,I.len⟩⟩
  ·rw [Oj];exact I.jt
  ·rw [Oj];exact I.own
 ·have:=F.lP n hn
  unfold ug
  rw [show (mJ hk al b nm nt fl ml hl η).has n=ja hl n from rfl]
  cases hg:ja hl n with
 |none=>rw [hg] at this;exact this
 |some h=>
   obtain ⟨s,g,o⟩:=h
   rw [hg] at this
   rcases this with ⟨h1,h2⟩|⟨h1,j,h2,h3⟩
   ·exact .inr ⟨h1,h2⟩
   ·exact .inl ⟨_,_,.ref 1 j,h2,CY,1,j,254,.none,rfl,h3,.inl rfl,rfl⟩
 ·have h:(if (tM hk al).any (λp=>aj i (b+p.2.j8) || aj i (b+p.2.ku)) then none else η.get 1 i)=some o:=h
  split at h
  ·exact xn h
  ·exact h
theorem ao4(hk:Bool)(al:Nat)(lU:al<4):∀y∈[lN,qu,pn,pY],wu hk al y=(if y=lN/\hk=true then some j6 else none).getD (Bh y)/\Bh y∈kG hk al/\((if y=lN/\hk=true then some j6 else none)=none\/j6∈kG hk al):=by
 have c4:al=0\/al=1\/al=2\/al=3:=DL lU
 rcases c4 with rfl|rfl|rfl|rfl<;>cases hk<;>decide +kernel
theorem ao5(A:zj hk al nm nt f fl ml hl ji)(F:Fin hk al b nm nt fl ml hl η):xT (mJ hk al b nm nt fl ml hl η) (tu hk al nm nt f fl ml hl ji) (b+45) (b+46):=by
 have lU:=A.Bb
 have S:=stat hk al lU
 have O:=aoX lU A.ux A.rV A.rW A.names A.wg F
 have ff:∀i,(∀n∈kG hk al,i≠b+(jj hk al n).j8/\i≠b+(jj hk al n).ku)->(mJ hk al b nm nt fl ml hl η).fix i=η.get 1 i:=λi h=>ZW S h
 have lows:∀i∈[1,2,4,45,46,107,109,111,113],∀n∈kG hk al,b+i≠b+(jj hk al n).j8/\b+i≠b+(jj hk al n).ku:=λi hi n hn=>by
  have:=S.low _ (ent S hn) i hi
  dsimp only at this
  exact Ou this
 have Ol:∀n∈kG hk al,∀s g o,ja hl n=some (s,g,o)->o∈l0 hk al/\(g=kh\/g=lO\/g=nj):=λn J s g o h=>by
  obtain ⟨h1,h2⟩:=A.rW.ok _ (qH h)
  dsimp only at h1 h2
  rcases h2 with ⟨_,c,d⟩|⟨_,c,d,_,_⟩
  ·exact ⟨d,c⟩
  ·rw [d,c]
   refine ⟨h1,?_⟩
   rcases aoW nm nt with e|e<;>rw [e]
   ·exact .inr (.inr rfl)
   ·exact .inl rfl
 refine ⟨O,ao1 A,ao2 lU,⟨λn hn s g o h=>(Ol n hn s g o h).2,λn hn s g o h=>?_,?_⟩,?_,λx hx=>?_⟩
 ·rw [aoS]
  exact S.cnt o (Ol n hn s g o h).1
 ·obtain ⟨l,u,h1,h2⟩:=F.mod
  exact ⟨l,u,by rw [ff _ (lows 45 (by simp))];exact h1,λn hn s g o h=>h2 o (Ol n hn s g o h).1⟩
 ·obtain ⟨l,u,h1,h2⟩:=F.act
  refine ⟨l,u,by rw [ff _ (lows 46 (by simp))];exact h1,λx hx=>?_⟩
  unfold Oe at h2
  simp only [aN] at h2
  obtain ⟨c1,c2,c3,c4⟩:=h2
  have mods:∀y∈[ju,jG,lB,jN,mL],∃v,ja l y=some v/\Val (mJ hk al b nm nt fl ml hl η) v (wu hk al y):=λy hy=>by
   obtain ⟨m1,m2⟩:=S.uW y hy
   exact ⟨_,qi (Bj c3 hy),.inr (.inr (.inr ⟨y,m1,rfl,by rw [aoR];exact m2.symm⟩))⟩
  have HD:∀y∈[lN,qu,pn,pY],∃v,ja l y=some v/\Val (mJ hk al b nm nt fl ml hl η) v (wu hk al y):=λy hy=>by
   obtain ⟨e1,e2,e3⟩:=ao4 hk al lU y hy
   obtain ⟨fs,a,c,d⟩:=F.things y hy
   have ht:wz y∈[1,2,4,45,46,107,109,111,113]:=by
    unfold wz
    split
    ·simp
    ·split
     ·simp
     ·split<;>simp
   refine ⟨_,qi (Bj c4 hy),.inr (.inr (.inl ⟨b+wz y,fs,_,Bh y,rfl,by rw [ff _ (lows _ ht)];exact a,by rw [Oj];exact c,d,λz hz=>?_,e2,e1⟩))⟩
   rcases e3 with e3|e3
   ·rw [e3] at hz;cases hz
   ·split at hz
    ·cases hz;exact e3
    ·cases hz
  unfold lZ at hx
  simp only [aB,aU,or_false] at hx
  show ∃v,ja l x=some v/\Val (mJ hk al b nm nt fl ml hl η) v (wu hk al x)
  rcases hx with rfl|rfl|rfl|rfl|rfl|rfl|rfl|rfl|rfl|rfl|rfl
  ·exact HD _ (by simp)
  ·exact HD _ (by simp)
  ·exact HD _ (by simp)
  ·exact HD _ (by simp)
  ·exact mods _ (by simp)
  ·exact mods _ (by simp)
  ·exact mods _ (by simp)
  ·exact mods _ (by simp)
  ·exact ⟨_,N6 c1,.inl ⟨rfl,S.Hs.2.2.1⟩⟩
  ·exact ⟨_,Hu c2,.inr (.inl ⟨rfl,S.Hs.2.2.2⟩)⟩
  ·exact mods _ (by simp)
 ·obtain ⟨h1,h2,h3⟩:=S.heads x hx
  obtain ⟨p,hp⟩:=cz.mp h2
  exact ⟨h1,aoZ O h1 hp,h3⟩
end
end
section
theorem vj{α:Type}{n:Nat}{L:List α}{P:Prop}(h:n+1<=L.length)(k:∀x R,L=x::R->n<=R.length->P):P:=match L,h,k with
|[],h,_=>absurd h (gj n)
|x::R,h,k=>k x R rfl (eE h)
theorem ten{P:Prop}(h:10<=L.length)(k:∀x0 x1 x2 x3 x4 x5 x6 x7 x8 x9 R,L=x0::x1::x2::x3::x4::x5::x6::x7::x8::x9::R->P):P:=
 vj h λx0 R0 e0 h0=>vj h0 λx1 R1 e1 h1=>vj h1 λx2 R2 e2 h2=>vj h2 λx3 R3 e3 h3=>vj h3 λx4 R4 e4 h4=>vj h4 λx5 R5 e5 h5=>vj h5 λx6 R6 e6 h6=>vj h6 λx7 R7 e7 h7=>vj h7 λx8 R8 e8 h8=>vj h8 λx9 R9 e9 h9=>k x0 x1 x2 x3 x4 x5 x6 x7 x8 x9 R9 (e0.trans (congrArg (x0::·) (e1.trans (congrArg (x1::·) (e2.trans (congrArg (x2::·) (e3.trans (congrArg (x3::·) (e4.trans (congrArg (x4::·) (e5.trans (congrArg (x5::·) (e6.trans (congrArg (x6::·) (e7.trans (congrArg (x7::·) (e8.trans (congrArg (x8::·) e9))))))))))))))))))
theorem ao6{x0 x1 x2 x3 x4 x6 x7 x8:AO}{R:List AO}{u5 js:Nat}{nt f:Str}(lU:al<4)(m6:nt=kg\/nt=j0\/nt=jW\/nt=jX)(hL:L=x0::x1::x2::x3::x4::.sd (kY (oq hk al)) u5::x6::x7::x8::.sd (jz (lV nm nt++[(m9,.ref 0 js)]) mO (.str f)) u9::R):
  ∃ji jh,rN fM 2 pO (Be (lq nt)) ⟨[L],oz nm nt++hW (lq nt)⟩=some (vg nm (lq nt),ji)/\
   rN fM 6 (kj 2 pO) (vg nm (lq nt)) ji=some (uy nm (lq nt),jh)/\
   rN fM 1 (kj 8 pO) (uy nm (lq nt)) jh=some (uy nm (lq nt),nX L hk al (lq nt) nm nt):=by
 subst hL
 rcases m6 with rfl|rfl|rfl|rfl
 ·have e1:lq kg=0:=if_pos rfl
  have e2:oz nm kg=[.jm]:=if_pos rfl
  unfold nX
  rw [e1,e2]
  exact yf _ _ (an9 _ _ _ _ _ _ _ _ _ _ _ _ _ _) (aod _ .jm .jm nm) (Hh hk lU (.inl rfl) _ _ _ _ _ _ _ _ .jm .jm _ _ _ _ _ _ _)
 ·have e1:lq j0=1:=if_neg (by decide +kernel)
  have e2:oz nm j0=[.sd [(nm,.tup [.none,.int 0,.int 0])] 0,.sd [(j0,.ref 1 0)] 0]:=if_neg (by decide +kernel)
  unfold nX
  rw [e1,e2]
  exact yf _ _ (aoa _ _ _ _ _ _ _ _ _ _ _ _ _ _) (NS _ (.sd [(nm,.tup [.none,.int 0,.int 0])] 0) (.sd [(j0,.ref 1 0)] 0) nm) (Hh hk lU (.inr rfl) _ _ _ _ _ _ _ _ (.sd [(nm,.tup [.none,.int 0,.int 0])] 0) (.sd [(j0,.ref 1 0)] 0) _ _ _ _ _ _ _)
 ·have e1:lq jW=1:=if_neg (by decide +kernel)
  have e2:oz nm jW=[.sd [(nm,.tup [.none,.int 0,.int 0])] 0,.sd [(jW,.ref 1 0)] 0]:=if_neg (by decide +kernel)
  unfold nX
  rw [e1,e2]
  exact yf _ _ (aob _ _ _ _ _ _ _ _ _ _ _ _ _ _) (NS _ (.sd [(nm,.tup [.none,.int 0,.int 0])] 0) (.sd [(jW,.ref 1 0)] 0) nm) (Hh hk lU (.inr rfl) _ _ _ _ _ _ _ _ (.sd [(nm,.tup [.none,.int 0,.int 0])] 0) (.sd [(jW,.ref 1 0)] 0) _ _ _ _ _ _ _)
 ·have e1:lq jX=1:=if_neg (by decide +kernel)
  have e2:oz nm jX=[.sd [(nm,.tup [.none,.int 0,.int 0])] 0,.sd [(jX,.ref 1 0)] 0]:=if_neg (by decide +kernel)
  unfold nX
  rw [e1,e2]
  exact yf _ _ (aoc _ _ _ _ _ _ _ _ _ _ _ _ _ _) (NS _ (.sd [(nm,.tup [.none,.int 0,.int 0])] 0) (.sd [(jX,.ref 1 0)] 0) nm) (Hh hk lU (.inr rfl) _ _ _ _ _ _ _ _ (.sd [(nm,.tup [.none,.int 0,.int 0])] 0) (.sd [(jX,.ref 1 0)] 0) _ _ _ _ _ _ _)
section
variable{nt f:Str}
theorem ao7(m6:nt=kg\/nt=j0\/nt=jW\/nt=jX){Q:PV->AH->Prop}(hK:250<=K)(q:Q (.ref 1 (lq nt+1)) ⟨[L],oz nm nt++hW (lq nt)⟩):jb K (.st (.ref 1054)) [.ref 1 (lq nt)] ⟨[L],oz nm nt⟩ Q:=by
 refine jb.le (k:=250) (UT Zv 14 ?_ q) hK
 rcases m6 with rfl|rfl|rfl|rfl
 ·have e1:lq kg=0:=if_pos rfl
  have e2:oz nm kg=[.jm]:=if_pos rfl
  rw [e1,e2]
  exact an5 L nm
 ·have e1:lq j0=1:=if_neg (by decide +kernel)
  have e2:oz nm j0=[.sd [(nm,.tup [.none,.int 0,.int 0])] 0,.sd [(j0,.ref 1 0)] 0]:=if_neg (by decide +kernel)
  rw [e1,e2]
  exact an6 L nm
 ·have e1:lq jW=1:=if_neg (by decide +kernel)
  have e2:oz nm jW=[.sd [(nm,.tup [.none,.int 0,.int 0])] 0,.sd [(jW,.ref 1 0)] 0]:=if_neg (by decide +kernel)
  rw [e1,e2]
  exact an7 L nm
 ·have e1:lq jX=1:=if_neg (by decide +kernel)
  have e2:oz nm jX=[.sd [(nm,.tup [.none,.int 0,.int 0])] 0,.sd [(jX,.ref 1 0)] 0]:=if_neg (by decide +kernel)
  rw [e1,e2]
  exact an8 L nm
theorem ao8(S:Stat hk al)(ok:ou hk al ml){p:Str×Nat×List Str}(hp:p∈ml):ja pT p.1=none:=by
 rcases ok.ok p hp with ⟨h1,_⟩|⟨h1,_⟩
 ·exact Og (S.aoI _ h1)
 ·rw [h1]
  kernel_rfl
theorem ao9(A:zj hk al nm nt f fl ml hl ji)(vm:ji=⟨[],L⟩){Q:PV->AH->Prop}(hK:220<=K)
  (q:∀iY,Fin hk al (lq nt) nm nt fl ml hl iY->iY.reg=2->(∀i o,ji.get 0 i=some o->iY.get 0 i=some o)->Q (.tup [.ref 1 (lq nt+45),.ref 1 (lq nt+46)]) iY) :
  jb K (.st (.ref 1145)) [.ref 1 (lq nt+1),.ref 0 9] ⟨[L],oz nm nt++hW (lq nt)⟩ Q:=by
 have S:=stat hk al A.Bb
 have g0:∀i,ji.get 0 i=L[i]?:=λi=>by rw [vm];rfl
 refine wD (A.bkx) λjs u9 h9=>?_
 refine oK (A.above) λu5 h5=>?_
 rw [g0] at h9 h5
 have hlen:10<=L.length:=(cY.mp h9).1
 refine ten hlen λx0 x1 x2 x3 x4 x5 x6 x7 x8 x9 R hL=>?_
 have e5:x5=.sd (kY (oq hk al)) u5:=by rw [hL] at h5;exact ai h5
 have e9:x9=.sd (jz (lV nm nt++[(m9,.ref 0 js)]) mO (.str f)) u9:=by rw [hL] at h9;exact ai h9
 rw [e5,e9] at hL
 refine D0 (ao6 A.Bb A.wg hL) ληa ηb hA hB hC=>?_
 obtain ⟨raw,lists,_⟩:=ZS (L:=L) (nm:=nm) (nt:=nt) A.Bb (rfl:lq nt=lq nt)
 have m0:∀i o,ji.get 0 i=some o->(nX L hk al (lq nt) nm nt).get 0 i=some o:=λi o e=>by
  rw [g0] at e
  exact e
 refine aeI (A.bk) λd ud hd J k1 k2 k3 J=>?_
 refine aoG (aaj hK) hA hB hC ?_
 refine aoB (A:=wA hk al (lq nt)) (sp:=l0 hk al) (dc rfl) rfl raw (m0 _ _ hd) k1 k2 k3 (A.front.mono (λj o J e=>m0 _ _ e) (dc rfl)) (A.mixed.mono (λj o J e=>m0 _ _ e) (dc rfl)) (A.has.mono λo e=>m0 _ _ e) A.ux.nodup A.rV.nodup A.rW.nodup (by have:=A.anF;exact Ov this) (by have:=A.anG;exact Ov this) ?_ (λp hp=>zl S A.ux hp) (λp hp=>zl S A.rV hp) (λp hp=>?_) (λp hp=>lists _ (S.rU _ (zl S A.rV hp).1) (ao8 S A.rV hp)) λiY D=>?_
 ·have h1:=Dj (hl.map az) (l0 hk al) A.rW.nodup λx hx=>by
   refine jL (aQ.mp hx) λp hp lH=>?_
   obtain rfl:=lH
   exact (A.rW.ok p hp).1
  rw [aC] at h1
  have h2:=(NM (hk:=hk) (al:=al)).2
  exact aak h1 h2
 ·refine jB (A.rW.ok p hp) λh1 h2=>?_
  refine ⟨h1,?_⟩
  rcases h2 with ⟨_,_,h⟩|⟨_,_,h,_⟩
  ·exact h
  ·rw [h];exact h1
 ·have F:=aoP A.Bb rfl A.ux A.rV A.rW D
  refine q _ (F.congr λr i=>AH.Bu _ _ _) ?_ λi o e=>?_
  ·have:iY.reg=1:=D.kn.reg
   show (iY.old++[iY.cur]).length=2
   rw [aE]
   have:iY.old.length=1:=this
   rw [this]
   rfl
  ·rw [AH.Bu]
   exact D.kn.get _ _ _ (dc rfl) (m0 _ _ e)
end
end
theorem apa(h:η.reg=0):η=⟨[],η.cur⟩:=by
 obtain ⟨old,cur⟩:=η
 have:old.length=0:=h
 rw [iR.mp this]
theorem apb(ns:List Int)(t8:ns.length<=63):jb 349 (.st (.ref 1172)) [.fl (ns.map .int)] ⟨[],[]⟩ λv J=>v=.bool true:=by
 refine jb.v9 17 (as:=[.fl (ns.map .int)]) 0 ald (by wtm_at "o") rfl (by kernel_rfl) ?_;intro _ _
 rw [show pP=cut 4 pP zb from rfl]
 generalize qy:zb=rest
 unfold pP
 dsimp only [cut]
 wtm_at "W"
 refine (ano ns t8 (by wtm_at "o")).is3 λGX w0 r0 n0=>?_
 wtm_at "W"
 refine jb.mX (by wtm_at "o") (by intro _ h;cases h) (show qk tab (.builtin "len") [.fl (ns.map .int)] GX=some (.int (ns.map PV.int).length,GX) from ?_) ?_
 ·show cond (kB (ns.map PV.int).length) _ none=_
  rw [lM (by rw [aC];exact O5 t8)]
  rfl
 repeat' wtm_at "u"
 generalize decide (((ns.map PV.int).length:Int)<2)=tiny
 have tail:∀(most:Nat),(most=2\/most=5)->∀(Q:PV->AH->Prop),(∀(L:List AO) (hk:Bool) (al:Nat) (nm nt f:Str) (fl ml:Rows) (hl:pB) (ji:AH),ji=⟨[],L⟩->zj hk al nm nt f fl ml hl ji->Q (.ref 0 9) ⟨[L],[]⟩)->jb (349 - (19+0+1)) (.st (.ref 1140)) [.ref 0 1,.int most] GX Q:=by
  intro most qh Q q
  refine anL r0 n0 w0 qh (by wtm_at "o") λ{ji hk al nm nt f fl ml hl} A=>?_
  have h:=apa A.reg
  have:=q ji.cur hk al nm nt f fl ml hl ji h A
  have e:ji.fresh=⟨[ji.cur],[]⟩:=by rw [h];rfl
  rw [e]
  exact this
 have fin:∀(L:List AO) (hk:Bool) (al:Nat) (nm nt f:Str) (fl ml:Rows) (hl:pB) (ji:AH),ji=⟨[],L⟩->zj hk al nm nt f fl ml hl ji->jb (349 - (19+0+1)) (.st (.ref 1054)) [.ref 1 (lq nt)] ⟨[L],oz nm nt⟩ λv η=>Wt (349 - (19+0+1)) (.loc 4) v [some (.fl (ns.map .int)),some (.ref 0 1),some (.bool tiny),some (.ref 0 9),none,none,none,none,none,none,none,none,none,none,none,none,none,none] η λe η=>WS (349 - (19+0+1)) (.cons (.uO [.loc 5,.loc 6] (.call (.st (.ref 1145)) (.cons (.v 4) (.cons (.v 3) .nil)))) rest) 0 e η (nc λv J=>v=.bool true):=by
  intro L hk al nm nt f fl ml hl ji vm A
  refine ao7 A.wg (dc rfl) ?_
  wtm_at "W"
  refine ao9 A vm (dc rfl) λiY F r' keep=>?_
  wtm_at "W"
  rw [<-qy]
  have R:=ao5 A F
  have run:Run (mJ hk al (lq nt) nm nt fl ml hl iY) (tu hk al nm nt f fl ml hl ji) 60 iY:=by
   refine ⟨ao3 A.Bb F r',λi o e=>?_,?_⟩
   ·have e:(if i=1 then none else ji.get 0 i)=some o:=e
    split at e
    ·exact xn e
    ·exact keep _ _ e
   ·refine qY (A.well.at_) λg b n h h'=>?_
    exact ⟨g,b,n,keep _ _ h,h'⟩
  exact anm R run (dc rfl) (dc rfl) λiY=>rfl
 have s3:∀(L:List AO) (hk:Bool) (al:Nat) (nm nt f:Str) (fl ml:Rows) (hl:pB) (ji:AH),ji=⟨[],L⟩->zj hk al nm nt f fl ml hl ji->WS (349 - (19+0+1)) (.cons (.asg (.loc 4) (.call (.st (.ref 1054)) (.cons (.sF (.cmp .NotEq (.item (.v 3) (.k (.str kJ))) (.k (.str kg))) (.dict (.cons (.item (.v 3) (.k (.str kJ))) (.dict (.cons (.item (.v 3) (.k (.str nE))) (.tup (.cons (.k .none) (.cons (.k (.int (0))) (.cons (.k (.int (0))) .nil)))) .nil)) .nil)) .jm) .nil))) (.cons (.uO [.loc 5,.loc 6] (.call (.st (.ref 1145)) (.cons (.v 4) (.cons (.v 3) .nil)))) rest)) 0 [some (.fl (ns.map .int)),some (.ref 0 1),some (.bool tiny),some (.ref 0 9),none,none,none,none,none,none,none,none,none,none,none,none,none,none] ⟨[L],[]⟩ (nc λv J=>v=.bool true):=by
  intro L hk al nm nt f fl ml hl ji vm A
  have go:=fin L hk al nm nt f fl ml hl ji vm A
  refine wF (A.bk) λd u hd J J J J kn kt J=>?_
  rw [vm] at hd
  have Ga:(⟨[L],[]⟩:AH).get 0 9=some (.sd d u):=hd
  have i1:jD tab (.ref 0 9) (.str kJ) ⟨[L],[]⟩=some (.str nt):=lF Ga kt
  have i2:jD tab (.ref 0 9) (.str nE) ⟨[L],[]⟩=some (.str nm):=lF Ga kn
  wtm_at "W"
  by_cases m6:nt=kg
  ·rw [show sq nt kg=true from jS.mpr m6]
   have e1:lq nt=0:=if_pos m6
   have e2:oz nm nt=[.jm]:=if_pos m6
   rw [e1,e2] at go
   wtm_at "W"
   exact go
  ·have:sq nt kg=false:=by
    induction h:sq nt kg using Bool.casesOn with
   |false=>rfl
   |true=>exact absurd (jS.mp h) m6
   rw [this]
   have e1:lq nt=1:=if_neg m6
   have e2:oz nm nt=[.sd [(nm,.tup [.none,.int 0,.int 0])] 0,.sd [(nt,.ref 1 0)] 0]:=if_neg m6
   rw [e1,e2] at go
   wtm_at "W"
   exact go
 clear fin
 induction tiny using Bool.casesOn with
|true=>
  wtm_at "W"
  refine tail 2 (.inl rfl) _ λL hk al nm nt f fl ml hl ji vm A=>?_
  iterate 1 wtm_at "s"
  exact s3 L hk al nm nt f fl ml hl ji vm A
|false=>
  wtm_at "W"
  refine tail 5 (.inr rfl) _ λL hk al nm nt f fl ml hl ji vm A=>?_
  iterate 1 wtm_at "s"
  exact s3 L hk al nm nt f fl ml hl ji vm A
end
theorem all_true:lw.Holds:=main λw s l vs ns Y hg hl hi hn J=>by
 exact walk (aj3 w) Y hg hl hi (apb ns hn)
end
end Mine.Internal
theorem PySem.Challenge.cw_sm0034_01_holds : PySem.Challenge.rw_sm0034_01.Holds :=
 Mine.Internal.all_true
