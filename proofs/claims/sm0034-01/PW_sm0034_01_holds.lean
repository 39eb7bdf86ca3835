import PyProof.Rows.All
import OpenK.KLine
import KE.KIsAll
import KE.KRevSl
import KE.KRevIter
import KE.KDictOf
import KE.KDictList
import KE.KSortTup
import PySem.Challenge.RW_sm0034_01
set_option Elab.async false
set_option linter.all false
set_option autoImplicit true
set_option genSizeOf false
set_option genInjectivity false
set_option tactic.hygienic false
set_option compiler.extract_closed false
set_option maxRecDepth 100000
set_option maxHeartbeats 0
open Array renaming getD_eq_getD_getElem?->dK,getElem?_eq_getElem->d9,length_toList->ez,mem_toList_iff->eX,toList->fY,getElem?_toList->gB,size_append->iK,mem_of_getElem?->iU,perm_iff_toList_perm->iV
open Bool renaming and_eq_true->aN,or_eq_true->bC,not_eq_true'->cM,and_true->dZ,eq_false_iff->fu,eq_iff_iff->fH,bne_false->gb,bne_true->gf,false_eq_true->gD,not_not->gN,beq_eq_decide_eq->iB,or_eq_false_iff->iG,and_eq_false_iff->iX,and_eq_true_iff->jh
open Classical renaming propDecidable->fZ
open Decidable renaming not_not->iP
open Eq renaming refl->eA
open Exists renaming elim->ay
open ForInStep renaming yield->cB
open Int renaming ofNat_lt->aS,ofNat_le->cF,fmod->cI,le_trans->dF,lt_of_le_of_lt->dY,fmod_nonneg_of_pos->eF,natCast_nonneg->eM,le_of_lt->eO,not_lt->eP,lt_trans->fN,lt_or_lt_of_ne->fP,fmod_lt_of_pos->gP,toNat_of_nonneg->gX,le_of_lt_add_one->ic,natAbs_lt_natAbs_of_nonneg_of_lt->jm
open List renaming mem_cons->aB,length_map->aC,length_append->aE,mem_append->aH,all_eq_true->aI,mem_singleton->aJ,mem_map->aQ,getElem?_eq_getElem->aR,not_mem_nil->aU,map_append->aV,range->aX,length_cons->aZ,replicate->bq,mem_cons_of_mem->bu,nodup_cons->bw,lookup_cons->bB,mem_append_left->bD,mem_cons_self->bL,size_toArray->bM,nil_append->bN,append_assoc->bQ,map_cons->bT,append_nil->bU,length_filter_le->bV,cons_append->bW,filter_append->b8,getElem?_eq_none->cy,nodup_append->cA,mem_filter->cC,toArray->cK,lookup->cN,getElem?_map->cQ,getElem?_eq_some_iff->cY,getElem?_toArray->cZ,pairwise_cons->c5,any_eq_true->dg,drop->dh,getElem_mem->dm,length_nil->dz,flatMap_cons->dB,nodup_nil->dJ,isEmpty_iff->dS,getD_eq_getElem?_getD->dU,map->dW,foldl->d7,reverse_cons->ek,mem_flatMap->eG,append_toArray->eW,map_map->fh,getElem?_eq_none_iff->fj,forIn_cons->fk,filterMap_cons->fy,getElem?_append_right->fB,filter->fC,pairwise_map->fE,length_reverse->fG,pairwise_append->fJ,getElem?_append_left->fV,any_eq_false->gj,length->gp,filter_eq_self->gv,mem_of_getElem?->gw,filter_eq_nil_iff->gy,drop_eq_getElem_cons->gC,getElem?_range->gE,append_cancel_left->gM,eq_nil_iff_forall_not_mem->gQ,append_of_mem->gU,idxOf_cons->gW,take_append_drop->ig,length_modify->iu,getElem?_modify->iw,getElem?_concat_length->iz,take_of_length_le->iH,eq_nil_of_length_eq_zero->iJ,findIdx?_cons->iM,length_filterMap_le->iN,zip_nil_right->iQ,getElem?_drop->iT,drop_of_length_le->iW,set_eq_of_length_le->ji,length_eq_zero_iff->jj,reverse_reverse->jl,length_singleton->jn,filterMap_append->jo,mem_append_right->jq,take_succ_cons->jr
open Nat renaming le_trans->ah,beq->aj,le_refl->ak,le_of_eq->aq,lt_of_le_of_lt->av,lt_of_lt_of_le->aA,le_of_lt->aD,add_le_add_left->aF,le_add_right->aG,add_le_add->aK,succ_le_succ->aL,lt_irrefl->aM,le_of_lt_succ->aO,eq_of_beq_eq_true->aP,add_le_add_right->aT,le_succ->aW,blt->aY,lt_add_of_pos_right->bf,zero_le->bx,add_left_cancel->bz,ble->bA,mul_le_mul_left->bE,lt_succ_self->bG,add_assoc->bH,ne_of_lt->bI,succ_pos->bO,lt_trans->bP,le_add_left->bR,add_comm->bX,beq_refl->bZ,le_of_ble_eq_true->b5,mul_le_mul_right->b9,lt_succ_of_le->cg,lt_of_succ_lt_succ->cj,succ_add->cu,le_of_succ_le->cw,not_le_of_gt->cD,zero_lt_of_lt->cG,lt_of_lt_of_eq->cR,sub_add_cancel->cS,zero_add->cU,succ_ne_self->cV,sub_lt->cW,lt_of_le_of_ne->c7,le_succ_of_le->c9,ble_eq->dw,add_mul->dD,le_sub_one_of_lt->dG,le_of_not_lt->dH,not_lt_zero->dX,le_of_succ_le_succ->eH,ne_of_gt->eN,sub_le->eS,add_sub_of_le->eT,le_antisymm->eU,lt_or_eq_of_le->fK,le_of_add_le_add_right->fL,min_le_left->fO,succ_le_of_lt->fQ,zero_lt_one->fR,two_mul->fS,sub_le_iff_le_add->fT,lt_succ_of_lt->fX,sub_self->gh,not_succ_le_zero->gu,add_lt_add_right->gY,div_lt_of_lt_mul->gZ,sub_le_of_le_add->hU,le_sub_of_add_le->ie,ne_of_beq_eq_false->iA,not_succ_le_self->iO,sub_le_iff_le_add'->iR,sub_add_sub_cancel->iS
open Nat.succ renaming inj->dQ
open Ne renaming symm->cX
open Option renaming isSome_iff_exists->cz,isNone_iff_eq_none->er,map_eq_some_iff->eV,bind_eq_some_iff->iC
open Option.some renaming inj->ai
open Prod renaming fst->az,snd->cP,ext->dR
open Prod.mk renaming inj->cL
open PySem.Builtin.Int renaming intBits->iD
open PySem.Builtin.List renaming listFitsIndex->iE
open PySem.Builtin.Range renaming rangeSize->iL
open PySem.Code renaming compLoop->ew
open PySem.DictEntry renaming refKey->iF
open PySem.Heap renaming get?_none_of_le->bJ,get?_push_size->bK,get?_push_of_some->bS,SameBut->bY,lt_size->cH,ExtBut->dI,get?_update_self->gm
open PySem.Heap.IsSliceOf renaming new->iI
open PySem.Heap.SameBut renaming update->d8
open PySem.NameKind renaming free->gq,cell->gA
open PySem.Obj renaming mapSeq->bc,putName_eq->eY,putNameByArray->eZ
open PySem.PyData renaming keyHash->fU
open PySem.Str renaming ofString->ao,mk->bh
open PySem.TablesWhole renaming holds->c6,wSs->eE,wS->gH,noTwice->gJ,wModule->gK,gather->jg
open PySem.Value renaming none->dj,ref->eu
open PySem.Value.ref renaming inj->cJ
open PySem.W.Fast renaming tw13343964577679436407->fF,tw3471404346716756564->gF,tw8326940854005059898->iY,tw5923862056798008813->iZ,tw17691160309236699985->ja,tw2368527892694137696->jb
open PySem.W.R renaming filterR->eB
open PySem.W.RowW renaming records->gG
namespace Mine.Internal
open PySem PySem.W PySem.Calls PyProof.Rows
noncomputable section
section
variable{b c d e a f:Nat}
theorem dc{p:Prop}[Decidable p](h:decide p=true):p:=of_decide_eq_true h
theorem yu(h:((b:Nat):Int)<3):b<3:=aS.mp h
theorem m5(h1:c=2\/c=5)(h2:((d:Nat):Int)<((c:Nat):Int)):d<5:=aA (aS.mp h2) (h1.elim (λe=>e▸by decide) λe=>e▸ak 5)
theorem zH(h1:c=2\/c=5)(h2:((d:Nat):Int)<((c:Nat):Int))(h3:d=(b+(e+1))):b<=3:=aO (aA (aA (bf (bO e)) (aq h3.symm)) (aO (m5 h1 h2)))
theorem BG(h0:a<500)(hb:b<=3):a+1+5*b<=515:=aK h0 (bE 5 hb)
theorem DZ(h1:((c:Nat):Int)<3)(h2:(1+c)=(b+(d+1))):b<=c:=eH (ah (bf (bO d)) (aq (h2.symm.trans (bX 1 c))))
theorem c3(h:a<3):a=0\/a=1\/a=2:=(fK (aO h)).elim (λh=>(fK (aO h)).elim (λh=>.inl (Nat.lt_one_iff.mp h)) λe=>.inr (.inl e)) λe=>.inr (.inr e)
theorem c4(h:a<4):a=0\/a=1\/a=2\/a=3:=(fK (aO h)).elim (λh=>(c3 h).imp id (.imp id .inl)) λe=>.inr (.inr (.inr e))
theorem q4(f:Nat):4*f=2*f+2*f:=dD 2 2 f
theorem OX(c:Nat):2*c+1<2+4*c:=aA (bG _) (ah (aq (bX (2*c) 2)) (aF (b9 c (dc rfl)) 2))
theorem q2(c:Nat):2*c+1+2*c=1+4*c:=(congrArg (·+2*c) (bX (2*c) 1)).trans ((bH 1 (2*c) (2*c)).trans (congrArg (1+·) (q4 c).symm))
theorem q1(c f:Nat):c+2*f+1+2*f=c+(1+4*f):=(bH c (2*f+1) (2*f)).trans (congrArg (c+·) (q2 f))
theorem tW{n:Nat}(h:10<=a)(d:n<10):¬ a=n:=λe=>cD d (ah h (aq e))
theorem om0(h0:a<20):a<30:=aA h0 (dc rfl)
theorem om6(h0:((a+(16*b))+16)<9900):(a+1)<9900:=av (aK (aG a _) (dc rfl)) h0
theorem om8(h0:a<=(b+1)):(a+1)<=((b+1)+1):=cg h0
theorem om9(h0:b<=60000)(h1:a<=b):(a+1)<=65536:=av h1 (av h0 (dc rfl))
theorem H8(h0:c<=b)(h1:a<=(c+1)):a<=(b+1):=ah h1 (aL h0)
theorem D0(h0:a<=60000):a<=65536:=ah h0 (dc rfl)
theorem aak(h0:b<=60000)(h1:a<=b):a<=60000:=ah h1 h0
theorem uQ:¬(a<0):=dX _
theorem aal(h0:(a+1)<(b+1)):a<b:=aO h0
theorem H9(h0:a<b):(a+1)<(b+1):=cg h0
theorem BH:0<=((a:Nat):Int):=eM _
theorem OY(h0:a<=65536):((a:Nat):Int)<=65536:=cF.mpr h0
theorem Ia(h0:a<65536):((a:Nat):Int)<65536:=aS.mpr h0
theorem aam(h0:(a+(b+1))<=12):a<=12:=ah (aG _ _) h0
theorem D9(h0:a<=2):a<3:=cg h0
theorem BI(h0:a<=21):a<=65536:=ah h0 (dc rfl)
theorem aan(h0:b=(a+(c+1))):a<b:=by simp [h0]
theorem aao(h0:b<=21)(h1:b=(a+(c+1))):a<65536:=aA (cR (bf (bO c)) h1.symm) (ah h0 (dc rfl))
theorem aap(h0:a<=b)(h1:¬(a=b)):a<b:=c7 h0 h1
theorem aaq(h0:a<=((30*b)+c)):a<=((30*b)+(c+1)):=c9 h0
theorem OZ(h0:a=b):((a:Nat):Int)=((b:Nat):Int):=by simp [h0]
theorem aar(h0:a=b)(h1:a<b):False:=by subst h0;lia
theorem aas:(((a:Nat):Int)<((b:Nat):Int)↔a<b):=by simp
theorem aat(h0:(b+(c+1))<=12)(h1:d<=21)(h2:a<=((30*b)+e))(h3:d=(e+(f+1))):a<=60000:=ah h2 (ah (aK (bE 30 (ah (aG b (c+1)) h0)) (ah (aG e (f+1)) (ah (aq h3.symm) h1))) (dc rfl))
theorem aau(h0:d<=((30*b)+c))(h1:a<=(d+1)):a<=((30*b)+(c+1)):=ah h1 (aL h0)
theorem aav(h0:c<b):¬((a=a/\b=c)):=λe=>aM _ (e.2▸h0)
theorem aaw(h0:¬(a=b)):¬(((a:Nat):Int)=((b:Nat):Int)):=λe=>h0 (Int.ofNat_inj.mp e)
theorem O0(h0:(b+1)<(a+1)):0<a:=av (bx b) (cj h0)
theorem aax(h0:(a+(b+1))<=12):((a+1)+b)<=12:=ah (aq (cu a b)) h0
theorem aay(h0:c<=21)(h1:a<=((30*b)+c)):a<=(30*(b+1)):=ah h1 (aF (ah h0 (dc rfl)) (30*b))
theorem Ib(h0:a<10):a<11:=c9 h0
theorem BJ(h0:10<=a):¬(a=1):=tW h0 (dc rfl)
theorem Ea(h0:a<4):(a=0\/(a=1\/(a=2\/a=3))):=c4 h0
theorem O1(h0:(¬(c=b)/\(¬(d=b)/\(¬(e=b)/\¬(f=b))))):(¬((a+b)=(a+c))/\¬((a+b)=(a+d))):=⟨λz=>h0.1 (bz z).symm,λz=>h0.2.1 (bz z).symm⟩
theorem aaz(h0:220<=a):200<=a:=ah (bR _ _) h0
theorem O2(h0:a<=3):a<=10:=ah h0 (dc rfl)
theorem aaA(h0:a<=b)(h1:b<=100):a<=100:=ah h0 h1
theorem O3(h0:a<b):¬(((2:Nat)=2/\a=b)):=λe=>aM _ (e.2▸h0)
theorem aaB(h0:a<=4):a<=11:=ah h0 (dc rfl)
theorem aaC(h0:a<900):a<1000:=aA h0 (dc rfl)
theorem Ic(h0:325<=a):20<=a:=ah (bR _ _) h0
theorem O4(h0:a<=11):a<=60000:=ah h0 (dc rfl)
theorem aaD(h0:a<900):(a+1)<1000:=av h0 (dc rfl)
theorem O5(h0:a<b):((a:Nat):Int)<((b:Nat):Int):=aS.mpr h0
theorem O6(h0:b<a):¬(((a:Nat):Int)<((b:Nat):Int)):=λe=>Nat.lt_asymm h0 (aS.mp e)
theorem Ie(h0:b<a):¬(((a:Nat):Int)=((b:Nat):Int)):=λe=>eN h0 (Int.ofNat_inj.mp e)
theorem aaE(h0:b=a):¬(((a:Nat):Int)<((b:Nat):Int)):=by simp [h0]
theorem aaF(h0:a<30):(a+1)<=64:=ah h0 (dc rfl)
theorem aaG{a:Int}(h0:a<=3):(a:Int).toNat<=3:=by simp [h0]
theorem aaH{a:Int}(h0:0<=a)(h1:a<=3):((-9223372036854775808)<=a/\a<9223372036854775808):=⟨dF (dc rfl) h0,dY h1 (dc rfl)⟩
theorem Ig(h0:a<=100):a<=65536:=ah h0 (dc rfl)
theorem aaI(h0:b<=100)(h1:a<b):(a+1)<=65536:=ah h1 (ah h0 (dc rfl))
theorem O7(h0:a<=10):a<=65536:=ah h0 (dc rfl)
theorem aaJ(h0:a<=2):a<=100:=ah h0 (dc rfl)
theorem aaK(h0:c<=b)(h1:a<d)(h2:d<=c):¬(((1:Nat)=1/\a=b)):=λe=>aM a (aA h1 (ah h2 (ah h0 (aq e.2.symm))))
theorem Eb(h0:a<=2):a<=65536:=ah h0 (dc rfl)
theorem O8:¬((a+1)=0):=Nat.succ_ne_zero _
theorem O9:¬(0=(a+1)):=(Nat.succ_ne_zero _).symm
theorem Ih(h0:a<=c)(h1:c<=b):a<=b:=ah h0 h1
theorem aaL(h0:c<=b)(h1:c=(d+a)):a<=b:=ah (ah (bR a d) (aq h1.symm)) h0
theorem aaM(h0:c<=d)(h1:c=(a+e))(h2:d<=(b+e)):a<=b:=fL (ah (aq h1.symm) (ah h0 h2))
theorem aaN(h0:c=(d+e))(h1:a<=(f+e))(h2:f<=(b+d)):a<=(b+c):=ah h1 (ah (aT h2 e) (aq ((bH b d e).trans (congrArg (b+·) h0.symm))))
theorem aaO(h0:c<=b)(h1:a<=c):a<=b:=ah h1 h0
theorem aaP(h0:b<=a)(h1:b=(2+(4*c))):a=((a - 1)+1):=(cS (ah (h1▸ah (dc rfl) (aG 2 (4*c))) h0)).symm
theorem aaQ(h0:b=(2+(4*c))):(a+1)<=(a+b):=aF (ah (ah (dc rfl:1<=2) (aG 2 (4*c))) (aq h0.symm)) a
theorem Ec:a<=(a+1):=aW _
theorem qY(h0:c<(b+1))(h1:a<c):a<b:=aA h1 (aO h0)
theorem aaR(h0:c=(2+(4*d)))(h1:c<=(b+1))(h2:a<=(2*d)):a<=b:=aO (aA (av h2 (Nat.lt_of_succ_lt (cR (OX d) h0.symm))) h1)
theorem aaS(h0:b=(2+(4*c)))(h1:b<=(d+1))(h2:e<=(2*c))(h3:d<=(a+e)):a=((a - 1)+1):=(cS (Nat.pos_of_ne_zero λz=>cD (OX c) (ah (aq h0.symm) (ah h1 (aL (ah h3 (ah (aq ((congrArg (·+e) z).trans (cU e))) h2))))))).symm
theorem aaT(h0:c=(2+(4*d)))(h1:c<=(e+1))(h2:f<=(2*d))(h3:a<=(2*d))(h4:e<=((b+1)+f)):a<=b:=ah h3 (fL (b:=2+2*d) (ah (aq ((Nat.add_left_comm (2*d) 2 (2*d)).trans ((congrArg (2+·) (q4 d).symm).trans h0.symm))) (ah h1 (ah (aL (ah h4 (aF h2 _))) (aq ((bH b 1 (2*d+1)).trans (congrArg (b+·) (cu 1 (2*d)).symm)))))))
theorem aaU{g:Nat}(h0:c=(2+(4*d)))(h1:e<=(2*d))(h2:f<=(2*d))(h3:a<=((g+1)+e))(h4:g<=(b+f)):(a+1)<=(b+c):=ah (aL (ah h3 (aK (aL (ah h4 (aF h2 b))) h1))) (aq ((congrArg Nat.succ (q1 b d)).trans (congrArg (b+·) ((cu 1 (4*d)).symm.trans h0.symm))))
theorem aaV(h0:(c+1)<=b)(h1:a<=c):a<=(b+1):=ah h1 (ah (aD h0) (aW b))
theorem aaW(h0:45<=(a+b))(h1:b=42):a=((a - 1)+1):=(cS (fL (ah (by rw [h1];decide:1+b<=45) h0))).symm
theorem aaX:¬(((a:Nat):Int)<0):=by simp
theorem aaY(h0:¬(a<=b)):(max 0 (min ((a:Nat):Int) ((b:Nat):Int)))=((b:Nat):Int):=by rw [Int.min_eq_right (cF.mpr (Nat.le_of_not_le h0))];exact Int.max_eq_right (eM b)
theorem Ii:¬(((1:Nat)=0/\a=1)):=λe=>cV _ e.1
theorem Ij:¬(((2:Nat)=0/\a=1)):=by simp
theorem aaZ{a:Int}(h0:c<=b)(h1:a<=((c:Nat):Int)):a<=((b:Nat):Int):=dF h1 (cF.mpr h0)
theorem aa0(h0:a<=3):a<=65536:=ah h0 (dc rfl)
theorem aa1(h0:b<=3)(h1:c<b)(h2:a<=c):(a+1)<=65536:=ah (av h2 h1) (ah h0 (dc rfl))
theorem Ed(h0:((b+c)+1)<=a):((((a - ((b+c)+1))+b)+c)+1)=a:=by rw [bH _ b c];exact cS h0
theorem aa2(h0:1<=a):((a - 1)+1)=a:=cS h0
theorem Pa(h0:(a+2)<b):a<b:=av (aG a 2) h0
theorem aa3(h0:a<=60000):(a+1)<=65536:=av h0 (dc rfl)
theorem Pb:((a+1)+b)=(a+(b+1)):=by lia
theorem BK(h0:a<=100):a<65536:=av h0 (dc rfl)
theorem Ik(h0:a<5000):a<100000:=aA h0 (dc rfl)
theorem BL(h0:0<a):0<((a:Nat):Int):=Int.natCast_pos.mpr h0
theorem Pg(h0:a<=60000):((a:Nat):Int)<65536:=aS.mpr (av h0 (dc rfl))
theorem wW{a:Int}(h0:0<=a):a=(((a:Int).toNat:Nat):Int):=(gX h0).symm
theorem Il(h0:((a:Nat):Int)<((b:Nat):Int)):a<b:=aS.mp h0
theorem Im(h0:¬(a=1)):¬(((0:Nat)=0/\a=1)):=λe=>h0 e.2
theorem Ph(h0:b<=60000)(h1:((a:Nat):Int)<((b:Nat):Int)):a<65536:=aA (aS.mp h1) (ah h0 (dc rfl))
theorem Pj(h0:a<1000):((a:Nat):Int)<65536:=aS.mpr (bP h0 (dc rfl))
theorem Pk(h0:b=c)(h1:((a:Nat):Int)<((c:Nat):Int)):a<b:=cR (aS.mp h1) h0.symm
theorem Pp(h0:1<a):¬(((0:Nat)=0/\a=1)):=λe=>aM _ (e.2▸h0)
theorem Pq(h0:b<1000)(h1:((a:Nat):Int)<((b:Nat):Int)):a<65536:=bP (aS.mp h1) (bP h0 (dc rfl))
theorem aa4(h0:a<500):a<100000:=aA h0 (dc rfl)
theorem aa5(h0:(a=2\/a=5)):0<((a:Nat):Int):=h0.elim (λe=>e▸by decide) λe=>e▸by decide
theorem aa6(h0:(a=2\/a=5)):((a:Nat):Int)<65536:=h0.elim (λe=>e▸by decide) λe=>e▸by decide
theorem Pu(h0:(b=2\/b=5))(h1:((a:Nat):Int)<((b:Nat):Int)):a<=65536:=ah (aD (m5 h0 h1)) (dc rfl)
theorem Pw(h0:10<=a):(¬(a=1)/\¬(a=8)):=⟨tW h0 (dc rfl),tW h0 (dc rfl)⟩
theorem aa7(h0:a<500)(h1:(c=2\/c=5))(h2:((d:Nat):Int)<((c:Nat):Int))(h3:d=(b+(e+1))):((a+1)+(5*b))<5000:=av (BG h0 (zH h1 h2 h3)) (dc rfl)
theorem Px(h0:4<=a):0<a:=ah (bR _ _) h0
theorem Py(h0:a<=100):a<=60000:=ah h0 (dc rfl)
theorem aa8(h0:a<500)(h1:(c=2\/c=5))(h2:((d:Nat):Int)<((c:Nat):Int))(h3:d=(b+(e+1))):(((a+1)+(5*b))+1)<100000:=av (aT (BG h0 (zH h1 h2 h3)) 1) (dc rfl)
theorem Io(h0:10<=b)(h1:b<=a):1<a:=aA (dc rfl:1<10) (ah h0 h1)
theorem aa9(h0:a<500)(h1:(c=2\/c=5))(h2:((d:Nat):Int)<((c:Nat):Int))(h3:d=(b+(e+1))):((((a+1)+(5*b))+1)+1)<5000:=av (aT (BG h0 (zH h1 h2 h3)) 2) (dc rfl)
theorem abb(h0:a<500)(h1:(c=2\/c=5))(h2:((d:Nat):Int)<((c:Nat):Int))(h3:d=(b+(e+1))):(((((a+1)+(5*b))+1)+1)+1)<100000:=av (aT (BG h0 (zH h1 h2 h3)) 3) (dc rfl)
theorem abd(h0:a<=(10+b)):(a+1)<=(10+(b+1)):=aT h0 _
theorem abe(h0:(b=2\/b=5))(h1:((c:Nat):Int)<((b:Nat):Int))(h2:a<=(10+d))(h3:c=(d+(e+1))):a<=100:=ah h2 (ah (aF (zH h0 h1 h3) 10) (dc rfl))
theorem abf(h0:a<500)(h1:(c=2\/c=5))(h2:((d:Nat):Int)<((c:Nat):Int))(h3:d=(b+(e+1))):((((((a+1)+(5*b))+1)+1)+1)+1)<5000:=av (aT (BG h0 (zH h1 h2 h3)) 4) (dc rfl)
theorem abg:(((((((a+1)+(5*b))+1)+1)+1)+1)+1)<=((a+1)+(5*(b+1))):=ak _
theorem abh:((((((a+1)+(5*b))+1)+1)+1)+1)<=((a+1)+(5*(b+1))):=aW _
theorem abi(h0:4<=b)(h1:a<4):a<b:=aA h1 h0
theorem abj(h0:a<4):a<65536:=aA h0 (dc rfl)
theorem abk(h0:a<500):(a+30)<5000:=aA (gY h0 30) (dc rfl)
theorem abl(h0:(b=2\/b=5))(h1:((c:Nat):Int)<((b:Nat):Int))(h2:a<=(10+c)):a<=100:=ah h2 (ah (aF (aD (m5 h0 h1)) 10) (dc rfl))
theorem abm{a b c:Int}(h0:(0<=a/\(0<=b/\(0<=c/\c<=((((d+30)+1):Nat):Int))))):(0<=a/\(0<=b/\(0<=c/\c<=(((d+40):Nat):Int)))):=h0.imp id (.imp id (.imp id λz=>dF z (cF.mpr (aF (by decide:31<=40) d))))
theorem abn(h0:((b:Nat):Int)<((2:Nat):Int)):((a+1)+(5*b))<=(a+30):=bH a 1 (5*b)▸aF (ah (aF (bE 5 (aD (aS.mp h0))) 1) (dc rfl)) a
theorem abo(h0:a<500)(h1:((b:Nat):Int)<((5:Nat):Int)):((a+1)+(5*b))<5000:=av (aK h0 (bE 5 (aD (aS.mp h1)))) (dc rfl)
theorem abp(h0:((b:Nat):Int)<((5:Nat):Int)):(((a+1)+(5*b))+1)<=(a+30):=ah (aL (aF (bE 5 (aO (aS.mp h0))) (a+1))) (aF (dc rfl:22<=30) a)
theorem abq(h0:1<=b):(a+1)<=(a+b):=aF h0 _
theorem abr:((a+b) - (a+1))=(b - 1):=Nat.add_sub_add_left a b 1
theorem abt(h0:b<=90)(h1:a<=b):(a+1)<=65536:=av h1 (av h0 (dc rfl))
theorem zI(h0:a<=b):a<=(b+1):=c9 h0
theorem abu(h0:a<=b):(a+1)<=(b+1):=cg h0
theorem abv(h0:a=0)(h1:b=2):a<b:=by simp [h0,h1]
theorem abw(h0:a<=b)(h1:(1<=c/\(1<=e/\(1<=f/\1<=d)))):(¬(a=(b+c))/\¬(a=(b+d))):=⟨λe=>cD (bf h1.1) (ah (aq e.symm) h0),λe=>cD (bf h1.2.2.2) (ah (aq e.symm) h0)⟩
theorem abx(h0:a<b)(h1:b<10):a<11:=bP h0 (bP h1 (dc rfl))
theorem aby(h0:a<b)(h1:b<10):a<12:=bP h0 (bP h1 (dc rfl))
theorem yv(h0:a<10):a<=9:=aO h0
theorem Ip(h0:a<=(21*(9+1))):a<=65536:=ah h0 (dc rfl)
theorem abz{a:Int}(h0:a<=((b:Nat):Int)):a<=(((b+1):Nat):Int):=dF h0 (cF.mpr (aW b))
theorem Pz{a:Int}(h0:0<a):0<=a:=eO h0
theorem Iq{a:Int}(h0:0<=a):0<=(a+1):=Int.le_add_one h0
theorem PA{a:Int}(h0:b<100000)(h1:a<=((b:Nat):Int)):(a+1)<1073741824:=dY (Int.add_le_add_right (dF h1 (cF.mpr (aD h0))) 1) (dc rfl)
theorem abA{a:Int}(h0:a<1000003):a<1073741824:=fN h0 (dc rfl)
theorem abB{a:Int}(h0:a<=((b:Nat):Int)):(a+1)<=(((b+1):Nat):Int):=by simp [h0]
theorem PB(h0:a<=63):a<=65536:=ah h0 (dc rfl)
theorem abC:(min 30 a)<=65536:=ah (fO 30 a) (dc rfl)
theorem PC(h0:a<=b)(h1:b<a):False:=aM _ (aA h1 h0)
theorem abD(h0:a<65536):(a+1)<=65536:=h0
theorem abE(h0:10<=a):¬(((0:Nat)=0/\a=1)):=λe=>by obtain ⟨a,b⟩:=e;lia
theorem abF(h0:10<=a):¬(((0:Nat)=0/\1=a)):=λe=>tW h0 (dc rfl) e.2.symm
theorem abG(h0:10<=a):¬(((0:Nat)=0/\5=a)):=λe=>tW h0 (dc rfl) e.2.symm
theorem PD(h0:10<=a):¬(((0:Nat)=0/\a=5)):=λe=>tW h0 (dc rfl) e.2
theorem abH(h0:5<b):¬((0=a/\5=b)):=λe=>aM _ (e.2▸h0)
theorem abI(h0:a<=100):a<=65533:=ah h0 (dc rfl)
theorem PF(h0:a<1000):a<100000:=aA h0 (dc rfl)
theorem abJ(h0:a<1000):(a+1)<100000:=av h0 (dc rfl)
theorem PG(h0:10<=b)(h1:b<=a):¬(((0:Nat)=0/\a=1)):=λe=>tW (ah h0 h1) (dc rfl) e.2
theorem abK(h0:(c+1)<=b)(h1:a<=c):a<=b:=ah h1 (aD h0)
theorem abL{a:Int}(h0:0<=a)(h1:a<4):(a=0\/(a=1\/(a=2\/a=3))):=by
 obtain ⟨n,rfl⟩:=Int.eq_ofNat_of_zero_le h0
 exact (c4 (aS.mp h1)).imp (congrArg _) (.imp (congrArg _) (.imp (congrArg _) (congrArg _)))
theorem abM{a b:Int}(h0:(b+((c:Nat):Int))<a):0<((a - b) - ((c:Nat):Int)):=Int.sub_pos_of_lt (Int.lt_sub_left_of_add_lt h0)
theorem abN{b c:Int}(h0:(c+((a:Nat):Int))<b):(a+1)<=((b - c):Int).toNat:=(Int.le_toNat (eO (Int.sub_pos_of_lt (dY (Int.le_add_of_nonneg_right (eM a)) h0)))).mpr (Int.le_sub_left_of_add_le (show c+((a:Int)+1)<=b from Int.add_assoc c a 1▸(show c+(a:Int)+1<=b from h0)))
theorem abO{a:Int}:((a+((b:Nat):Int))+1)=(a+(((b+1):Nat):Int)):=Int.add_assoc a b 1
theorem abP{a b:Int}:(((a - b) - ((c:Nat):Int)) - 1)=((a - b) - (((c+1):Nat):Int)):=Int.sub_sub (a - b) c 1
theorem abQ{a b:Int}(h0:¬((b+((c:Nat):Int))<a)):((a - b) - ((c:Nat):Int))<=0:=Int.sub_nonpos_of_le (Int.sub_left_le_of_le_add (eP.mp h0))
theorem abR(h0:b<a):((((a:Nat):Int) - 1) - ((b:Nat):Int))=((((a - 1) - b):Nat):Int):=by rw [Int.ofNat_sub (dG h0),Int.ofNat_sub (cG h0)];rfl
theorem abS(h0:((((a:Nat):Int) - 1) - ((b:Nat):Int))=((((a - 1) - b):Nat):Int)):(((((a - 1) - b):Nat):Int) - 1)=((((a:Nat):Int) - 1) - (((b+1):Nat):Int)):=(congrArg (· - 1) h0.symm).trans (Int.sub_sub _ _ _)
theorem abT(h0:b<=a)(h1:¬(b<a)):((((a:Nat):Int) - 1) - ((b:Nat):Int))=(-1):=by lia
theorem abU{a b:Int}:(((a - b) - 1)+1)=(a - b):=by simp
theorem abV{a b:Int}(h0:((0<=b/\b<=a)/\a<=65536))(h1:¬(b<a)):0=(a - b):=(Int.sub_eq_zero_of_eq (Int.le_antisymm (eP.mp h1) h0.1.2)).symm
theorem Ir(h0:10<=a):(4+1)<=a:=ah (bR _ _) h0
theorem abW(h0:a<=(b+c)):(a+1)<=(b+(c+1)):=aT h0 _
theorem abX(h0:a<10):(a+1)<11:=cg h0
theorem abY(h0:b<=(21*(9+1)))(h1:c<=b)(h2:a=c):a<=65536:=ah (aq h2) (ah h1 (ah h0 (dc rfl)))
theorem abZ(h0:b<=c)(h1:c<=d)(h2:d<=40)(h3:a<b):(a+1)<=65536:=ah h3 (ah h0 (ah h1 (ah h2 (dc rfl))))
theorem ab0(h0:2<=b)(h1:b<=a):2<=a:=ah h0 h1
theorem ab1(h0:a<=b)(h1:b<=c)(h2:c<=40):a<=60:=ah h0 (ah h1 (ah h2 (dc rfl)))
theorem ab2(h0:b<=c)(h1:c<=40)(h2:a<b):(a+1)<=65536:=ah h2 (ah h0 (ah h1 (dc rfl)))
theorem ab3(h0:b<=c)(h1:(a+(2*c))<1000):(a+(2*b))<1000:=av (aF (bE 2 h0) a) h1
theorem ab4(h0:b<=c)(h1:((a+(16*c))+16)<9900):((a+(16*b))+16)<9900:=av (aT (aF (bE 16 h0) a) 16) h1
theorem ab5(h0:c<=10)(h1:a<=200)(h2:c=(b+(d+1))):(a+(2*b))<900:=av (aK h1 (bE 2 (ah (aG b (d+1)) (ah (aq h2.symm) h0)))) (dc rfl)
theorem PJ(h0:(a+(b+1))=11):a<11:=cR (bf (bO b)) h0
theorem PK(h0:b<11)(h1:a<=b):(a+1)<=65536:=ah (aL h1) (ah h0 (dc rfl))
theorem ab6(h0:a<=100):a<=200:=ah h0 (dc rfl)
theorem ab7(h0:a<=100):a<100000:=av h0 (dc rfl)
theorem ab8:(6+((a:Nat):Int))=(((6+a):Nat):Int):=by simp
theorem ab9(h0:((a:Nat):Int)<5):(6+a)<=65536:=ah (aF (aD (aS.mp h0)) 6) (dc rfl)
theorem acd(h0:((a:Nat):Int)<5):(6+a)<=10:=aF (aO (aS.mp h0)) 6
theorem ace(h0:a<=100):(a+1)<=200:=av h0 (dc rfl)
theorem PL{a b c d e f:Int}(h0:(a<e\/(a=e/\c<f)))(h1:(e<b\/(e=b/\f<d))):(a<b\/(a=b/\c<d)):=h0.elim (λp=>.inl (h1.elim (fN p) λq=>q.1▸p)) λp=>h1.imp (λq=>p.1▸q) λq=>⟨p.1.trans q.1,fN p.2 q.2⟩
theorem PN{a b c d:Int}(h0:(¬(b<a)/\(¬(b=a)\/¬(d<c))))(h1:(¬(b=a)\/¬(d=c))):(a<b\/(a=b/\c<d)):=(Decidable.em (b=a)).elim (λe=>.inr ⟨e.symm,(fP (h1.resolve_left λz=>z e)).resolve_left (h0.2.resolve_left λz=>z e)⟩) λe=>.inl ((fP e).resolve_left h0.1)
theorem Iu(h0:(a+1)<=b):a<=b:=aD h0
theorem acf(h0:(a+1)<=b):a<b:=h0
theorem acg(h0:a<=(c+d)):(a+b)<=(c+(b+(1*d))):=ah (aT h0 b) (aq ((bH c d b).trans (congrArg (c+·) ((bX d b).trans (congrArg (b+·) (Nat.one_mul d).symm)))))
theorem ach:a<=(a+b):=aG _ _
theorem aci(h0:a<=(c+e))(h1:e<=(2*f))(h2:b<=(2*f))(h3:d=(1+(4*f))):((a+(0+1))+b)<=(c+d):=ah (aK (aL (ah h0 (aF h1 c))) h2) (aq ((q1 c f).trans (congrArg (c+·) h3.symm)))
theorem acj(h0:a<=d)(h1:d<=21)(h2:b<=c):(a+b)<=(c+21):=bX a b▸aK h2 (ah h0 h1)
theorem ack:(0+21)<=(21*(a+1)):=bR _ _
theorem acm(h0:b<=a)(h1:c<b):a=((a - 1)+1):=(cS (ah (fQ (cG h1)) h0)).symm
theorem acn(h0:a<c)(h1:c<=(b+1)):a<=b:=aO (aA h0 h1)
theorem aco(h0:a<=(21*(b+1))):(a+21)<=(21*((b+1)+1)):=aT h0 _
theorem PR(h0:(a+(b+1))<=100):a<=100:=ah (aG _ _) h0
theorem acp(h0:(a+(b+1))<=100):a<65536:=av (ah (aG a (b+1)) h0) (dc rfl)
theorem acq(h0:(a+(b+1))<=100):((a+1)+b)<=100:=ah (aq (cu a b)) h0
theorem acr(h0:(c+1)<(b+1))(h1:a<c):(a+1)<b:=av h1 (cj h0)
theorem acs(h0:a<10):(a+1)<15:=av h0 (dc rfl)
theorem acu(h0:a<=210):a<=1000:=ah h0 (dc rfl)
theorem acv(h0:a<=21):a<=1000:=ah h0 (dc rfl)
theorem zJ(h0:(a+(c+1))<=b):a<b:=aA (bf (bO c)) h0
theorem zK(h0:(a+(c+1))<=b):(a - 1)<b:=av (eS a 1) (aA (bf (bO c)) h0)
theorem acw(h0:1<=a):¬(a=(a - 1)):=λe=>aM a (av (aq e) (cW h0 (dc rfl)))
theorem PS(h0:a<c)(h1:(c+(d+1))<=b):a<b:=aA h0 (ah (aG c (d+1)) h1)
theorem Iv(h0:a<b)(h1:¬(a=(b - 1))):a<(b - 1):=c7 (dG h0) h1
theorem acy(h0:1<=a):(a - 1)<a:=cW h0 (dc rfl)
theorem PT(h0:a<(b+1))(h1:¬(a=b)):a<b:=c7 (aO h0) h1
theorem acz:1<=(a+1):=bR _ _
theorem PW(h0:(a+(b+1))<=c):((a+1)+b)<=c:=ah (aq (cu a b)) h0
theorem acA(h0:a<=((b+1)+c)):a<=(b+(c+1)):=ah h0 (aq (cu b c))
theorem acB(h0:a<(b+(c+1))):a<((b+1)+c):=cR h0 (cu b c).symm
theorem acC(h0:2<=a):(a - 1)<a:=cW (aA Nat.zero_lt_two h0) fR
theorem acD(h0:2<=a):2<=(a+1):=c9 h0
theorem acE(h0:2<=a):¬(a=(a - 1)):=λe=>aM a (av (aq e) (cW (cw h0) (dc rfl)))
theorem acF(h0:(a+(c+1))<=b):a<=b:=ah (aG _ _) h0
theorem acG(h0:a<c)(h1:c<b):a<b:=bP h0 h1
theorem acH(h0:c<b)(h1:b<a):((a - 1) - b)<((a - 1) - c):=Nat.sub_lt_sub_left (aA h0 (dG h1)) h0
theorem acI(h0:c<a):((a - 1) - b)<a:=av (eS _ _) (cW (cG h0) (dc rfl))
theorem acJ(h0:2<=a):(1+(a - 1))<=a:=aq (eT (cw h0))
theorem PY(h0:2<=b)(h1:a<=(1+(b - 1))):a<=b:=ah h1 (aq (eT (cw h0)))
theorem acK(h0:1<a):0<(a - 1):=Nat.sub_pos_of_lt h0
theorem acL(h0:1<a):(a - 1)<a:=cW (bP fR h0) fR
theorem acM(h0:1<=a)(h1:¬(1<a)):a=1:=eU (dH h1) h0
theorem acN(h0:a<b)(h1:b<2):(a=0/\b=1):=by
 have e:b=1:=eU (aO h1) (fQ (cG h0))
 exact ⟨Nat.lt_one_iff.mp (e▸h0),e⟩
theorem acO(h0:2<=a):1<(1+(a - 1)):=bf (Nat.sub_pos_of_lt h0)
theorem acP(h0:2<=a):((1+1)+(a - (1+1)))<=a:=by simp [h0]
theorem acQ(h0:(1+1)<=a):1<=a:=aD h0
theorem acR(h0:a<=b):(a+(b - a))<=b:=by simp [h0]
theorem acS(h0:(1+1)<=b)(h1:b<=a):1<=a:=ah (aD h0) h1
theorem acT(h0:c<=b)(h1:a<=(c+(b - c))):a<=b:=ah h1 (aq (eT h0))
theorem acU(h0:(a - c)<=0)(h1:c<=b):a<=b:=ah (Nat.le_of_sub_eq_zero (Nat.le_zero.mp h0)) h1
theorem acV(h0:¬(b<=a)):(((a+b) / 2)<b/\a<=((a+b) / 2)):=by
 have h:=Nat.lt_of_not_le h0
 exact ⟨gZ (by rw [fS];exact gY h b),(Nat.le_div_iff_mul_le (dc rfl)).mpr (by rw [Nat.mul_two];exact aF (aD h) a)⟩
theorem acW(h0:b<=c)(h1:(((a+b) / 2)<b/\a<=((a+b) / 2))):((a+b) / 2)<=c:=aD (aA h1.1 h0)
theorem acX(h0:(b - a)<=(c+1)):(((a+b) / 2) - a)<=c:=hU (aO (gZ (av (aF (fT.mp h0) a) (cR (Nat.add_lt_add_of_lt_of_le (cg (bR a c)) (aq (Nat.add_right_comm c 1 a))) (fS _).symm))))
theorem Ef(h0:d<c)(h1:b<=d)(h2:(((a+b) / 2)<b/\a<=((a+b) / 2))):((a+b) / 2)<c:=bP (aA h2.1 h1) h0
theorem Eg(h0:c<b)(h1:a<c):a<b:=bP h1 h0
theorem acY(h0:((a+b) / 2)<=c)(h1:¬(c=((a+b) / 2))):((a+b) / 2)<c:=c7 h0 λe=>h1 e.symm
theorem acZ(h0:c<=a)(h1:(((b+c) / 2)<c/\b<=((b+c) / 2))):¬(a=((b+c) / 2)):=λe=>aM _ (aA h1.1 (ah h0 (aq e)))
theorem ac0(h0:(((a+b) / 2)<b/\a<=((a+b) / 2))):(((a+b) / 2)+1)<=b:=h0.1
theorem ac1(h0:(a - b)<=(c+1)):(a - (((b+a) / 2)+1))<=c:=hU (Nat.le_of_mul_le_mul_left (ah (aq (fS a)) (ah (aT (fT.mp h0) a) (ah (aq ((bH (c+1) b a).trans (cu c (b+a)))) (ah (aK (Nat.le_mul_of_pos_left c (dc rfl)) (Nat.lt_mul_div_succ (b+a) (dc rfl))) (aq (Nat.mul_add 2 c _).symm))))) (dc rfl))
theorem ac2(h0:c<b)(h1:d<=c)(h2:(((e+d) / 2)<d/\e<=((e+d) / 2)))(h3:a<(((e+d) / 2)+1)):a<b:=av (ah (aO h3) (ah (aD h2.1) h1)) h0
theorem ac3(h0:a<(((b+c) / 2)+1))(h1:¬(a=((b+c) / 2))):a<((b+c) / 2):=c7 (aO h0) h1
theorem ac4(h0:b<=c)(h1:(((a+b) / 2)<b/\a<=((a+b) / 2))):((a+b) / 2)<c:=aA h1.1 h0
theorem PZ(h0:(a+(c+1))=b):a<b:=cR (bf (bO c)) h0
theorem ac5(h0:(a+(b+1))=c):((a+1)+b)=c:=by subst h0;lia
theorem ac6:(a - b)<=a:=by simp
theorem ac7(h0:b<=a):(a - (a - b))=b:=Nat.sub_sub_self h0
theorem ac8(h0:a<c)(h1:c<(b+1)):a<=b:=aD (aA h0 (aO h1))
theorem ac9(h0:a<(b+1)):a<=b:=aO h0
theorem ada(h0:c<a)(h1:c=b):¬(a=b):=λe=>eN h0 (e.trans h1.symm)
theorem adb(h0:c<b)(h1:c=a):a<b:=by subst h1;exact h0
theorem ade(h0:c<b)(h1:c=a):a<=(b - 1):=h1▸dG h0
theorem Iw(h0:c<a)(h1:a<(b+1)):(a - 1)<b:=aA (cW (cG h0) (dc rfl)) (aO h1)
theorem adf(h0:c<a)(h1:b<c):¬(a=b):=λe=>aM _ (bP h1 (cR h0 e))
theorem adg(h0:a<b)(h1:c<a):(a - 1)<(b - 1):=Nat.sub_lt_sub_right (fQ (cG h1)) h0
theorem adh(h0:a<c)(h1:c=b):a<b:=by subst h1;exact h0
theorem adi(h0:c<=b)(h1:¬(a=c))(h2:¬(c<a)):a<b:=aA (c7 (dH h2) h1) h0
theorem adj(h0:1<=a):(max a 1)=a:=by simp [h0]
theorem adk(h0:a<b):(a+(b - a))=b:=eT (aD h0)
theorem adl(h0:a<=b)(h1:¬(a<b)):a=b:=eU h0 (dH h1)
theorem Eh(h0:a<64):a<=16777216:=ah (aD h0) (dc rfl)
theorem adn(h0:2<=a):¬(a<2):=Nat.not_lt.mpr h0
theorem ado(h0:2<=a):0<a:=aD h0
theorem adp(h0:a<64):a<=(16777216+1):=ah (aD h0) (dc rfl)
theorem Qa(h0:(a+1)<=3):a<=3:=aD h0
theorem Qc(h0:(b+1)<=3)(h1:a<(b+1)):a<3:=aA h1 h0
theorem adq(h0:a=((b+1)+c)):a=(b+(c+1)):=by subst h0;lia
theorem Ei(h0:c=b)(h1:a<c):a<b:=by subst h0;exact h1
theorem BP(h0:a<=1000):a<=65536:=ah h0 (dc rfl)
theorem ads(h0:b<=1000)(h1:a<=b):a<=65535:=ah h1 (ah h0 (dc rfl))
theorem adt(h0:(a<10/\¬(a=b)))(h1:10<=a):False:=cD h0.1 h1
theorem adu(h0:a=2):1<a:=by subst h0;exact ak _
theorem adv(h0:a=3):1<a:=by simp [h0]
theorem adw(h0:a=10):10<=a:=by subst h0;exact ak _
theorem adx(h0:b=10)(h1:b<=a):¬(((0:Nat)=0/\a=9)):=λe=>tW (ah (aq h0.symm) h1) (dc rfl) e.2
theorem Iz(h0:b=10)(h1:b<=a):10<=a:=h0▸h1
theorem ady(h0:b=10)(h1:b<=a):(¬(a=1)/\(¬(a=6)/\¬(a=7))):=have h:=ah (aq h0.symm) h1;⟨tW h (dc rfl),tW h (dc rfl),tW h (dc rfl)⟩
theorem adz(h0:b<10)(h1:10<=a):¬(((0:Nat)=0/\a=b)):=λe=>aM _ (aA h0 (e.2▸h1))
theorem Qd(h0:¬(a=b)):¬(((0:Nat)=0/\a=b)):=λe=>h0 e.2
theorem adA(h0:40<=a):30<=a:=ah (bR _ _) h0
theorem IA:¬(((2:Nat)=1/\a=b)):=λe=>cV _ e.1
theorem adB(h0:b<a):((a - 1) - b)<a:=av (eS _ _) (cW (cG h0) (dc rfl))
theorem adC(h0:b<a):((a - 1) - ((a - 1) - b))=b:=Nat.sub_sub_self (dG h0)
theorem adD(h0:(a+(b+1))=3):a<3:=aA (bf (bO b)) (aq h0)
theorem adE(h0:b<3)(h1:a<=b):(a+1)<=65536:=ah (aL h1) (ah h0 (dc rfl))
theorem adF(h0:a<=(((0+1)+1)+1)):(4+a)<=65536:=ah (aF h0 _) (dc rfl)
theorem adG(h0:a<=(((0+1)+1)+1)):(3+a)<=65536:=ah (aF h0 _) (dc rfl)
theorem Ej(h0:((a=6/\b=7)\/(a=7/\b=6))):¬(a=1):=λe=>h0.elim (λz=>absurd (e.symm.trans z.1) (dc rfl)) λz=>absurd (e.symm.trans z.1) (dc rfl)
theorem Ek(h0:((b=6/\a=7)\/(b=7/\a=6))):¬(a=1):=λe=>h0.elim (λz=>absurd (e.symm.trans z.2) (dc rfl)) λz=>absurd (e.symm.trans z.2) (dc rfl)
theorem adH(h0:a<=(((0+1)+1)+1)):(4+a)<=7:=aF h0 _
theorem adJ(h0:a<=(((0+1)+1)+1)):(3+a)<=7:=ah (aF h0 _) (dc rfl)
theorem adK(h0:a<=7):a<=65536:=ah h0 (dc rfl)
theorem adL(h0:a<900):a<100000:=aA h0 (dc rfl)
theorem adN(h0:a<=7):((a:Nat):Int)<65536:=aS.mpr (av h0 (dc rfl))
theorem adO(h0:b<=7)(h1:((a:Nat):Int)<((b:Nat):Int)):a<65536:=aA (aS.mp h1) (ah h0 (dc rfl))
theorem adP(h0:10<=b)(h1:b<=a):10<=a:=ah h0 h1
theorem IB(h0:((a=6/\b=7)\/(a=7/\b=6))):a<10:=h0.elim (λz=>av (aq z.1) (dc rfl)) λz=>av (aq z.1) (dc rfl)
theorem adQ(h0:a<=2):a<=65535:=ah h0 (dc rfl)
theorem adR(h0:a<=50):a<=100:=ah h0 (dc rfl)
theorem adS(h0:10<=b)(h1:(c+1)<=a)(h2:b<=c):10<=a:=ah h0 (ah h2 (cw h1))
theorem adT(h0:((b=6/\a=7)\/(b=7/\a=6))):¬(a=b):=λe=>h0.elim (λz=>absurd (z.2.symm.trans (e.trans z.1)) (dc rfl)) λz=>absurd (z.2.symm.trans (e.trans z.1)) (dc rfl)
theorem adU(h0:((a=6/\b=7)\/(a=7/\b=6))):¬(((0:Nat)=0/\1=a)):=λe=>h0.elim (λz=>absurd (e.2.trans z.1) (dc rfl)) λz=>absurd (e.2.trans z.1) (dc rfl)
theorem adV:(a+1)<=(a+1):=bG _
theorem adW(h0:a<800):a<100000:=aA h0 (dc rfl)
theorem adX:(1+((a:Nat):Int))=(((1+a):Nat):Int):=by simp
theorem Qe(h0:((a:Nat):Int)<3):(1+a)<=65536:=ah (aF (aD (yu h0)) 1) (dc rfl)
theorem adZ(h0:((b:Nat):Int)<3)(h1:(1+b)=(c+(d+1)))(h2:a=c):(a=0\/(a=1\/a=2)):=c3 (h2▸av (DZ h0 h1) (yu h0))
theorem ad0(h0:a<800)(h1:((c:Nat):Int)<3)(h2:(1+c)=(b+(d+1))):((a+1)+(2*b))<100000:=av (aK h0 (bE 2 (ah (DZ h1 h2) (aD (yu h1))))) (dc rfl)
theorem ad1{a:Int}(h0:0<=a)(h1:a<2):(a=0\/a=1):=(Int.lt_or_eq_of_le (ic (b:=1) h1)).elim (λh=>.inl (Int.le_antisymm (ic (b:=0) h) h0)) .inr
theorem Qf(h0:((b:Nat):Int)<3)(h1:a<=c)(h2:(1+b)=(c+(d+1))):a<=50:=ah h1 (ah (DZ h0 h2) (ah (aD (yu h0)) (dc rfl)))
theorem Qg(h0:a<800)(h1:((c:Nat):Int)<3)(h2:(1+c)=(b+(d+1))):(((a+1)+(2*b))+1)<900:=av (aT (aK h0 (bE 2 (ah (DZ h1 h2) (aD (yu h1))))) 1) (dc rfl)
theorem Qh(h0:((b:Nat):Int)<3)(h1:a<=(1+b)):a<=3:=ah h1 (aF (aO (yu h0)) 1)
theorem ad2(h0:((b:Nat):Int)<3):((a+1)+(2*(1+b)))<=(a+10):=ah (aF (bE 2 (aF (aO (yu h0)) 1)) (a+1)) (aF (dc rfl:7<=10) a)
theorem ad3(h0:b<=c)(h1:a<=d):(a+b)<=(c+(1*d)):=bX a b▸(Nat.one_mul d).symm▸aK h0 h1
theorem ad4(h0:a<=d)(h1:b<=e)(h2:d<=(2*c))(h3:e<=(2*c)):((a+1)+b)<=(1+(4*c)):=ah (aK (aL (ah h0 h2)) (ah h1 h3)) (aq (q2 c))
theorem ad5(h0:(a+1)<=3):(a=0\/(a=1\/a=2)):=c3 h0
theorem Qi(h0:d<=5)(h1:b<=(c*5))(h2:a<=d):(a+b)<=((c*5)+(1*5)):=bX a b▸aK h1 (ah h2 h0)
theorem Qj(h0:b<c):¬((a=a/\b=c)):=λe=>aM _ (e.2▸h0)
theorem ad6(h0:d<=5)(h1:e<=2)(h2:a<=100)(h3:f<e)(h4:b<=(f*5))(h5:c<=d):((a+b)+c)<=65536:=ah (aK (aK h2 (ah h4 (b9 5 (ah (aD h3) h1)))) (ah h5 h0)) (dc rfl)
theorem ad7(h0:(d+1)<=c):¬((a=b/\c=d)):=λe=>aM _ (e.2▸h0)
theorem ad8(h0:b<=2)(h1:a<=(b*5)):(0+a)<65536:=av (ah (aq (cU a)) (ah h1 (b9 5 h0))) (dc rfl)
theorem ad9(h0:(25*(b+1))<=a):10<=(a - ((9+0)+1)):=ie (ah (ah (dc rfl) (Nat.le_mul_of_pos_right 25 (bO b))) h0)
theorem aea(h0:b<=2)(h1:a<=(b*5)):(a+1)<=100:=ah (aL (ah h1 (b9 5 h0))) (dc rfl)
theorem aeb(h0:d<e)(h1:e<=c):¬((a=b/\c=d)):=λe=>aM _ (aA h0 (e.2▸h1))
theorem aec{a b:Int}(h0:(a<a\/(a=a/\b<b))):False:=h0.elim (λh=>Int.lt_irrefl _ h) λh=>Int.lt_irrefl _ h.2
theorem aed{a b c d:Int}(h0:¬((b<a\/(b=a/\d<c))))(h1:¬(d=c)):(a<b\/(a=b/\c<d)):=PN ⟨λz=>h0 (.inl z),(Decidable.em (b=a)).elim (λe=>.inr λz=>h0 (.inr ⟨e,z⟩)) .inl⟩ (.inr h1)
theorem aee{a b c d:Int}(h0:¬((b<a\/(b=a/\d<c))))(h1:¬(b=a)):(a<b\/(a=b/\c<d)):=.inl ((fP h1).resolve_left λz=>h0 (.inl z))
theorem aef(h0:a=b)(h1:2<=b):2<=a:=by subst h0;exact h1
theorem aeg(h0:a=b)(h1:b<=60):a<64:=av (ah (aq h0) h1) (dc rfl)
theorem aeh(h0:b=c)(h1:2<=c)(h2:a=b):0<a:=aA (dc rfl) (ah h1 (aq (h2.trans h0).symm))
theorem aei(h0:(a+20)<9900):(((a+1)+1)+2)<9900:=av (aF (by decide:4<=20) a) h0
theorem aej(h0:¬(b<a)):a<=b:=Nat.not_lt.mp h0
theorem Qk:¬(((1:Nat)=2/\a=b)):=by simp
theorem aek(h0:a<=1000):a<=60000:=ah h0 (dc rfl)
theorem ael(h0:c<b)(h1:a<=c):a<=b:=ah h1 (aD h0)
theorem aem:¬(((2:Nat)=2/\(a+1)=a)):=λe=>cV _ e.2
theorem Ql(h0:b<=1000)(h1:a<=c)(h2:c<b):a<65536:=av h1 (aA h2 (ah h0 (dc rfl)))
theorem aen(h0:b<=1000)(h1:a<=b):a<=60000:=ah h1 (ah h0 (dc rfl))
theorem Qm(h0:b<=1000)(h1:c<b)(h2:a<=c):(a+1)<=65536:=ah (ah (aL h2) (ah h1 h0)) (dc rfl)
theorem aeo(h0:c<=1000)(h1:d<=1000)(h2:a<=d)(h3:b<=c):(a+b)<=65536:=ah (aK (ah h2 h1) (ah h3 h0)) (dc rfl)
theorem aep(h0:a<=1000):(1+a)<=65536:=ah (aF h0 _) (dc rfl)
theorem aeq(h0:b<=1000)(h1:a<=b):a<=1000:=ah h1 h0
theorem aer(h0:b<=1000)(h1:a<b):(a+1)<=65536:=ah h1 (ah h0 (dc rfl))
theorem Qn(h0:(a+(b+1))<=1000):(a+(b+1))<=65536:=ah h0 (dc rfl)
theorem aes(h0:(a+(b+1))<=1000):a<65536:=av (ah (aG a (b+1)) h0) (dc rfl)
theorem aet(h0:(a+(b+1))<=1000):a<=65536:=ah (ah (aG a (b+1)) h0) (dc rfl)
theorem aeu(h0:(b+(c+1))<=1000)(h1:a<b):(a+1)<=65536:=ah h1 (ah (ah (aG b (c+1)) h0) (dc rfl))
theorem aev(h0:(a+(b+1))<=1000):(a+(0+1))<=65536:=ah (aF (aL (bx b)) a) (ah h0 (dc rfl))
theorem aew(h0:(b+1)<=a):(a - b)=((a - (b+1))+1):=(Nat.succ_sub_succ a b▸Nat.succ_sub h0 :)
theorem aex(h0:b<a):¬(((1:Nat)=1/\a=b)):=λe=>aM _ (e.2▸h0)
theorem aey(h0:((a+(0+1))+(5*(b+1)))<=500):a<=65535:=ah (aD (ah (aG (a+1) (5*(b+1))) h0)) (dc rfl)
theorem aez(h0:((a+(0+1))+(5*(b+1)))<=500):a<65536:=ah (ah (aG (a+1) (5*(b+1))) h0) (dc rfl)
theorem El:a<=(a+2):=aG _ _
theorem En:¬((a=a/\b=(b+2))):=by simp
theorem Eo:¬((a=a/\(b+1)=(b+2))):=λe=>cV _ e.2.symm
theorem aeA(h0:((a+b)+1)<=100):a<65536:=aA (cg (aG a b)) (ah h0 (dc rfl))
theorem aeB:a<=a:=ak _
theorem Qo(h0:((a+b)+1)<=100):((a+1)+b)<=100:=ah (aq (cu a b)) h0
theorem Ep(h0:((a+b)+1)<=100):(a+b)<=100:=aD h0
theorem Qp(h0:((a+1)+(5*(b+1)))<=500):(a+(5*b))<=500:=ah (aK (aW a) (bE 5 (aW b))) h0
theorem aeC:¬((a=a/\(b+1)=b)):=λe=>cV _ e.2
theorem aeD:¬((a=a/\(b+2)=b)):=by simp
theorem aeE(h0:((a+b)+1)<=100):a<=60000:=ah (ah (aG a b) (aD h0)) (dc rfl)
theorem aeF:¬((a=a/\(b+2)=(b+1))):=λe=>cV _ e.2
theorem aeG:¬((a=a/\b=(b+1))):=λe=>cV _ e.2.symm
theorem Qq(h0:a<=2):a<=1000:=ah h0 (dc rfl)
theorem Qs(h0:(b+2)<c):¬((a=a/\(b+2)=c)):=λe=>aM _ (e.2▸h0)
theorem aeH(h0:((a+1)+(5*(c+1)))<=500)(h1:b<=2):(a+b)<=65536:=ah (aK (ah (ah (aW a) (aG ..)) h0) h1) (dc rfl)
theorem aeI(h0:((a+1)+(5*(c+1)))<=500)(h1:b<=2):(a+b)<65536:=av (aK (ah (ah (aW a) (aG ..)) h0) h1) (dc rfl)
theorem aeJ(h0:((a+1)+(5*(d+1)))<=500)(h1:b<=2)(h2:c<=2):((a+(b+1))+c)<=65536:=ah (aK (aK (ah (ah (aW a) (aG ..)) h0) (aL h1)) h2) (dc rfl)
theorem aeK(h0:((a+1)+(5*(d+1)))<=500)(h1:b<=2)(h2:c<=2):((a+(b+(c+1)))+(5*d))<=500:=ah (aT (aF (aK h1 (aL h2)) a) (5*d)) (ah (aq ((bH a 5 (5*d)).trans (congrArg (a+·) (bX 5 (5*d))))) (ah (aT (aW a) _) h0))
theorem IC(h0:a<=b)(h1:1<=c)(h2:a=(b+c)):False:=cD (bf h1) (ah (aq h2.symm) h0)
theorem Qt:0<=a:=bR _ _
theorem aeL(h0:a=1):1<=a:=by subst h0;exact ak _
theorem aeM(h0:a<=(21*(9+1))):a<=1000:=ah h0 (dc rfl)
theorem aeN(h0:(a+(b+1))=3):a<=3:=ah (aG a (b+1)) (aq h0)
theorem aeO(h0:a<=3):(a+1)<=65536:=av h0 (dc rfl)
theorem aeP(h0:a=3):a<=65536:=by simp [h0]
theorem aeQ(h0:b=3)(h1:a<b):(a+1)<=65536:=ah h1 (ah (aq h0) (dc rfl))
theorem aeR(h0:b<c):¬((2=a/\b=(c+1))):=λe=>cD h0 (ah (aW c) (aq e.2.symm))
theorem aeS:¬((a=b/\c=((c+1)+1))):=by lia
theorem aeT:¬((a=b/\c=(c+1))):=λe=>cV _ e.2.symm
end
theorem jP{P0 P1:Prop}{G:Prop}(h:P0/\P1)(f:P0->P1->G):G:=f h.1 h.2
theorem pU{P0 P1 P2:Prop}{G:Prop}(h:P0/\P1/\P2)(f:P0->P1->P2->G):G:=f h.1 h.2.1 h.2.2
theorem zL{P0 P1 P2 P3:Prop}{G:Prop}(h:P0/\P1/\P2/\P3)(f:P0->P1->P2->P3->G):G:=f h.1 h.2.1 h.2.2.1 h.2.2.2
theorem aeU{P0 P1 P2 P3 P4 P5:Prop}{G:Prop}(h:P0/\P1/\P2/\P3/\P4/\P5)(f:P0->P1->P2->P3->P4->P5->G):G:=f h.1 h.2.1 h.2.2.1 h.2.2.2.1 h.2.2.2.2.1 h.2.2.2.2.2
theorem aeV{P0 P1 P2 P3 P4 P5 P6 P7 P8:Prop}{G:Prop}(h:P0/\P1/\P2/\P3/\P4/\P5/\P6/\P7/\P8)(f:P0->P1->P2->P3->P4->P5->P6->P7->P8->G):G:=f h.1 h.2.1 h.2.2.1 h.2.2.2.1 h.2.2.2.2.1 h.2.2.2.2.2.1 h.2.2.2.2.2.2.1 h.2.2.2.2.2.2.2.1 h.2.2.2.2.2.2.2.2
theorem o6{jX:Sort _}{P0:jX->Prop}{G:Prop}(h:∃x0,P0 x0)(f:∀x0,P0 x0->G):G:=h.elim λx0 h=>f x0 h
theorem jZ{jX:Sort _}{P0 P1:jX->Prop}{G:Prop}(h:∃x0,P0 x0/\P1 x0)(f:∀x0,P0 x0->P1 x0->G):G:=h.elim λx0 h=>f x0 h.1 h.2
theorem vV{jX:Sort _}{P0 P1 P2:jX->Prop}{G:Prop}(h:∃x0,P0 x0/\P1 x0/\P2 x0)(f:∀x0,P0 x0->P1 x0->P2 x0->G):G:=h.elim λx0 h=>f x0 h.1 h.2.1 h.2.2
theorem BQ{jX:Sort _}{P0 P1 P2 P3:jX->Prop}{G:Prop}(h:∃x0,P0 x0/\P1 x0/\P2 x0/\P3 x0)(f:∀x0,P0 x0->P1 x0->P2 x0->P3 x0->G):G:=h.elim λx0 h=>f x0 h.1 h.2.1 h.2.2.1 h.2.2.2
theorem IE{jX:Sort _}{P0 P1 P2 P3 P4 P5:jX->Prop}{G:Prop}(h:∃x0,P0 x0/\P1 x0/\P2 x0/\P3 x0/\P4 x0/\P5 x0)(f:∀x0,P0 x0->P1 x0->P2 x0->P3 x0->P4 x0->P5 x0->G):G:=h.elim λx0 h=>f x0 h.1 h.2.1 h.2.2.1 h.2.2.2.1 h.2.2.2.2.1 h.2.2.2.2.2
theorem aeW{jX:Sort _}{P0 P1 P2 P3 P4 P5 P6 P7 P8 P9:jX->Prop}{G:Prop}(h:∃x0,P0 x0/\P1 x0/\P2 x0/\P3 x0/\P4 x0/\P5 x0/\P6 x0/\P7 x0/\P8 x0/\P9 x0)(f:∀x0,P0 x0->P1 x0->P2 x0->P3 x0->P4 x0->P5 x0->P6 x0->P7 x0->P8 x0->P9 x0->G):G:=h.elim λx0 h=>f x0 h.1 h.2.1 h.2.2.1 h.2.2.2.1 h.2.2.2.2.1 h.2.2.2.2.2.1 h.2.2.2.2.2.2.1 h.2.2.2.2.2.2.2.1 h.2.2.2.2.2.2.2.2.1 h.2.2.2.2.2.2.2.2.2
theorem wX{jX:Sort _}{kh:Sort _}{P0:jX->kh->Prop}{G:Prop}(h:∃x0 x1,P0 x0 x1)(f:∀x0 x1,P0 x0 x1->G):G:=h.elim λx0 h=>h.elim λx1 h=>f x0 x1 h
theorem oH{jX:Sort _}{kh:Sort _}{P0 P1:jX->kh->Prop}{G:Prop}(h:∃x0 x1,P0 x0 x1/\P1 x0 x1)(f:∀x0 x1,P0 x0 x1->P1 x0 x1->G):G:=h.elim λx0 h=>h.elim λx1 h=>f x0 x1 h.1 h.2
theorem yw{jX:Sort _}{kh:Sort _}{P0 P1:jX->kh->Prop}(x0:jX)(x1:kh)(h0:P0 x0 x1)(h1:P1 x0 x1):∃x0 x1,P0 x0 x1/\P1 x0 x1:=⟨x0,x1,h0,h1⟩
theorem Er{jX:Sort _}{kh:Sort _}{P0 P1 P2:jX->kh->Prop}{G:Prop}(h:∃x0 x1,P0 x0 x1/\P1 x0 x1/\P2 x0 x1)(f:∀x0 x1,P0 x0 x1->P1 x0 x1->P2 x0 x1->G):G:=h.elim λx0 h=>h.elim λx1 h=>f x0 x1 h.1 h.2.1 h.2.2
theorem yx{jX:Sort _}{kh:Sort _}{P0 P1 P2:jX->kh->Prop}(x0:jX)(x1:kh)(h0:P0 x0 x1)(h1:P1 x0 x1)(h2:P2 x0 x1):∃x0 x1,P0 x0 x1/\P1 x0 x1/\P2 x0 x1:=⟨x0,x1,h0,h1,h2⟩
theorem Qu{jX:Sort _}{kh:Sort _}{P0 P1 P2 P3:jX->kh->Prop}{G:Prop}(h:∃x0 x1,P0 x0 x1/\P1 x0 x1/\P2 x0 x1/\P3 x0 x1)(f:∀x0 x1,P0 x0 x1->P1 x0 x1->P2 x0 x1->P3 x0 x1->G):G:=h.elim λx0 h=>h.elim λx1 h=>f x0 x1 h.1 h.2.1 h.2.2.1 h.2.2.2
theorem Qv{jX:Sort _}{kh:Sort _}{P0 P1 P2 P3:jX->kh->Prop}(x0:jX)(x1:kh)(h0:P0 x0 x1)(h1:P1 x0 x1)(h2:P2 x0 x1)(h3:P3 x0 x1):∃x0 x1,P0 x0 x1/\P1 x0 x1/\P2 x0 x1/\P3 x0 x1:=⟨x0,x1,h0,h1,h2,h3⟩
theorem aeX{jX:Sort _}{kh:Sort _}{P0 P1 P2 P3 P4:jX->kh->Prop}{G:Prop}(h:∃x0 x1,P0 x0 x1/\P1 x0 x1/\P2 x0 x1/\P3 x0 x1/\P4 x0 x1)(f:∀x0 x1,P0 x0 x1->P1 x0 x1->P2 x0 x1->P3 x0 x1->P4 x0 x1->G):G:=h.elim λx0 h=>h.elim λx1 h=>f x0 x1 h.1 h.2.1 h.2.2.1 h.2.2.2.1 h.2.2.2.2
theorem IG{jX:Sort _}{kh:Sort _}{P0 P1 P2 P3 P4:jX->kh->Prop}(x0:jX)(x1:kh)(h0:P0 x0 x1)(h1:P1 x0 x1)(h2:P2 x0 x1)(h3:P3 x0 x1)(h4:P4 x0 x1):∃x0 x1,P0 x0 x1/\P1 x0 x1/\P2 x0 x1/\P3 x0 x1/\P4 x0 x1:=⟨x0,x1,h0,h1,h2,h3,h4⟩
theorem aeY{jX:Sort _}{kh:Sort _}{P0 P1 P2 P3 P4 P5:jX->kh->Prop}{G:Prop}(h:∃x0 x1,P0 x0 x1/\P1 x0 x1/\P2 x0 x1/\P3 x0 x1/\P4 x0 x1/\P5 x0 x1)(f:∀x0 x1,P0 x0 x1->P1 x0 x1->P2 x0 x1->P3 x0 x1->P4 x0 x1->P5 x0 x1->G):G:=h.elim λx0 h=>h.elim λx1 h=>f x0 x1 h.1 h.2.1 h.2.2.1 h.2.2.2.1 h.2.2.2.2.1 h.2.2.2.2.2
theorem wY{jX:Sort _}{kh:Sort _}{P0 P1 P2 P3 P4 P5 P6 P7:jX->kh->Prop}{G:Prop}(h:∃x0 x1,P0 x0 x1/\P1 x0 x1/\P2 x0 x1/\P3 x0 x1/\P4 x0 x1/\P5 x0 x1/\P6 x0 x1/\P7 x0 x1)(f:∀x0 x1,P0 x0 x1->P1 x0 x1->P2 x0 x1->P3 x0 x1->P4 x0 x1->P5 x0 x1->P6 x0 x1->P7 x0 x1->G):G:=h.elim λx0 h=>h.elim λx1 h=>f x0 x1 h.1 h.2.1 h.2.2.1 h.2.2.2.1 h.2.2.2.2.1 h.2.2.2.2.2.1 h.2.2.2.2.2.2.1 h.2.2.2.2.2.2.2
theorem rH{jX:Sort _}{kh:Sort _}{lY:Sort _}{P0 P1:jX->kh->lY->Prop}{G:Prop}(h:∃x0 x1 x2,P0 x0 x1 x2/\P1 x0 x1 x2)(f:∀x0 x1 x2,P0 x0 x1 x2->P1 x0 x1 x2->G):G:=h.elim λx0 h=>h.elim λx1 h=>h.elim λx2 h=>f x0 x1 x2 h.1 h.2
theorem aeZ{jX:Sort _}{kh:Sort _}{lY:Sort _}{P0 P1:jX->kh->lY->Prop}(x0:jX)(x1:kh)(x2:lY)(h0:P0 x0 x1 x2)(h1:P1 x0 x1 x2):∃x0 x1 x2,P0 x0 x1 x2/\P1 x0 x1 x2:=⟨x0,x1,x2,h0,h1⟩
theorem Qw{jX:Sort _}{kh:Sort _}{lY:Sort _}{P0 P1 P2:jX->kh->lY->Prop}{G:Prop}(h:∃x0 x1 x2,P0 x0 x1 x2/\P1 x0 x1 x2/\P2 x0 x1 x2)(f:∀x0 x1 x2,P0 x0 x1 x2->P1 x0 x1 x2->P2 x0 x1 x2->G):G:=h.elim λx0 h=>h.elim λx1 h=>h.elim λx2 h=>f x0 x1 x2 h.1 h.2.1 h.2.2
theorem Qx{jX:Sort _}{kh:Sort _}{lY:Sort _}{P0 P1 P2 P3 P4:jX->kh->lY->Prop}{G:Prop}(h:∃x0 x1 x2,P0 x0 x1 x2/\P1 x0 x1 x2/\P2 x0 x1 x2/\P3 x0 x1 x2/\P4 x0 x1 x2)(f:∀x0 x1 x2,P0 x0 x1 x2->P1 x0 x1 x2->P2 x0 x1 x2->P3 x0 x1 x2->P4 x0 x1 x2->G):G:=h.elim λx0 h=>h.elim λx1 h=>h.elim λx2 h=>f x0 x1 x2 h.1 h.2.1 h.2.2.1 h.2.2.2.1 h.2.2.2.2
theorem ae0{jX:Sort _}{kh:Sort _}{lY:Sort _}{P0 P1 P2 P3 P4 P5 P6:jX->kh->lY->Prop}{G:Prop}(h:∃x0 x1 x2,P0 x0 x1 x2/\P1 x0 x1 x2/\P2 x0 x1 x2/\P3 x0 x1 x2/\P4 x0 x1 x2/\P5 x0 x1 x2/\P6 x0 x1 x2)(f:∀x0 x1 x2,P0 x0 x1 x2->P1 x0 x1 x2->P2 x0 x1 x2->P3 x0 x1 x2->P4 x0 x1 x2->P5 x0 x1 x2->P6 x0 x1 x2->G):G:=h.elim λx0 h=>h.elim λx1 h=>h.elim λx2 h=>f x0 x1 x2 h.1 h.2.1 h.2.2.1 h.2.2.2.1 h.2.2.2.2.1 h.2.2.2.2.2.1 h.2.2.2.2.2.2
theorem II{jX:Sort _}{kh:Sort _}{lY:Sort _}{nO:Sort _}{P0:jX->kh->lY->nO->Prop}{G:Prop}(h:∃x0 x1 x2 x3,P0 x0 x1 x2 x3)(f:∀x0 x1 x2 x3,P0 x0 x1 x2 x3->G):G:=h.elim λx0 h=>h.elim λx1 h=>h.elim λx2 h=>h.elim λx3 h=>f x0 x1 x2 x3 h
theorem Es{jX:Sort _}{kh:Sort _}{lY:Sort _}{nO:Sort _}{P0 P1 P2 P3:jX->kh->lY->nO->Prop}{G:Prop}(h:∃x0 x1 x2 x3,P0 x0 x1 x2 x3/\P1 x0 x1 x2 x3/\P2 x0 x1 x2 x3/\P3 x0 x1 x2 x3)(f:∀x0 x1 x2 x3,P0 x0 x1 x2 x3->P1 x0 x1 x2 x3->P2 x0 x1 x2 x3->P3 x0 x1 x2 x3->G):G:=h.elim λx0 h=>h.elim λx1 h=>h.elim λx2 h=>h.elim λx3 h=>f x0 x1 x2 x3 h.1 h.2.1 h.2.2.1 h.2.2.2
theorem Qy{jX:Sort _}{kh:Sort _}{lY:Sort _}{nO:Sort _}{P0 P1 P2 P3:jX->kh->lY->nO->Prop}(x0:jX)(x1:kh)(x2:lY)(x3:nO)(h0:P0 x0 x1 x2 x3)(h1:P1 x0 x1 x2 x3)(h2:P2 x0 x1 x2 x3)(h3:P3 x0 x1 x2 x3):∃x0 x1 x2 x3,P0 x0 x1 x2 x3/\P1 x0 x1 x2 x3/\P2 x0 x1 x2 x3/\P3 x0 x1 x2 x3:=⟨x0,x1,x2,x3,h0,h1,h2,h3⟩
theorem Qz{jX:Sort _}{kh:Sort _}{lY:Sort _}{nO:Sort _}{P0 P1 P2 P3 P4 P5 P6:jX->kh->lY->nO->Prop}{G:Prop}(h:∃x0 x1 x2 x3,P0 x0 x1 x2 x3/\P1 x0 x1 x2 x3/\P2 x0 x1 x2 x3/\P3 x0 x1 x2 x3/\P4 x0 x1 x2 x3/\P5 x0 x1 x2 x3/\P6 x0 x1 x2 x3)(f:∀x0 x1 x2 x3,P0 x0 x1 x2 x3->P1 x0 x1 x2 x3->P2 x0 x1 x2 x3->P3 x0 x1 x2 x3->P4 x0 x1 x2 x3->P5 x0 x1 x2 x3->P6 x0 x1 x2 x3->G):G:=h.elim λx0 h=>h.elim λx1 h=>h.elim λx2 h=>h.elim λx3 h=>f x0 x1 x2 x3 h.1 h.2.1 h.2.2.1 h.2.2.2.1 h.2.2.2.2.1 h.2.2.2.2.2.1 h.2.2.2.2.2.2
theorem ae1{jX:Sort _}{kh:Sort _}{lY:Sort _}{nO:Sort _}{P0 P1 P2 P3 P4 P5 P6:jX->kh->lY->nO->Prop}(x0:jX)(x1:kh)(x2:lY)(x3:nO)(h0:P0 x0 x1 x2 x3)(h1:P1 x0 x1 x2 x3)(h2:P2 x0 x1 x2 x3)(h3:P3 x0 x1 x2 x3)(h4:P4 x0 x1 x2 x3)(h5:P5 x0 x1 x2 x3)(h6:P6 x0 x1 x2 x3):∃x0 x1 x2 x3,P0 x0 x1 x2 x3/\P1 x0 x1 x2 x3/\P2 x0 x1 x2 x3/\P3 x0 x1 x2 x3/\P4 x0 x1 x2 x3/\P5 x0 x1 x2 x3/\P6 x0 x1 x2 x3:=⟨x0,x1,x2,x3,h0,h1,h2,h3,h4,h5,h6⟩
theorem QB{jX:Sort _}{kh:Sort _}{lY:Sort _}{nO:Sort _}{P0 P1 P2 P3 P4 P5 P6 P7:jX->kh->lY->nO->Prop}{G:Prop}(h:∃x0 x1 x2 x3,P0 x0 x1 x2 x3/\P1 x0 x1 x2 x3/\P2 x0 x1 x2 x3/\P3 x0 x1 x2 x3/\P4 x0 x1 x2 x3/\P5 x0 x1 x2 x3/\P6 x0 x1 x2 x3/\P7 x0 x1 x2 x3)(f:∀x0 x1 x2 x3,P0 x0 x1 x2 x3->P1 x0 x1 x2 x3->P2 x0 x1 x2 x3->P3 x0 x1 x2 x3->P4 x0 x1 x2 x3->P5 x0 x1 x2 x3->P6 x0 x1 x2 x3->P7 x0 x1 x2 x3->G):G:=h.elim λx0 h=>h.elim λx1 h=>h.elim λx2 h=>h.elim λx3 h=>f x0 x1 x2 x3 h.1 h.2.1 h.2.2.1 h.2.2.2.1 h.2.2.2.2.1 h.2.2.2.2.2.1 h.2.2.2.2.2.2.1 h.2.2.2.2.2.2.2
theorem ae2{jX:Sort _}{kh:Sort _}{lY:Sort _}{nO:Sort _}{P0 P1 P2 P3 P4 P5 P6 P7:jX->kh->lY->nO->Prop}(x0:jX)(x1:kh)(x2:lY)(x3:nO)(h0:P0 x0 x1 x2 x3)(h1:P1 x0 x1 x2 x3)(h2:P2 x0 x1 x2 x3)(h3:P3 x0 x1 x2 x3)(h4:P4 x0 x1 x2 x3)(h5:P5 x0 x1 x2 x3)(h6:P6 x0 x1 x2 x3)(h7:P7 x0 x1 x2 x3):∃x0 x1 x2 x3,P0 x0 x1 x2 x3/\P1 x0 x1 x2 x3/\P2 x0 x1 x2 x3/\P3 x0 x1 x2 x3/\P4 x0 x1 x2 x3/\P5 x0 x1 x2 x3/\P6 x0 x1 x2 x3/\P7 x0 x1 x2 x3:=⟨x0,x1,x2,x3,h0,h1,h2,h3,h4,h5,h6,h7⟩
theorem IJ{jX:Sort _}{kh:Sort _}{lY:Sort _}{nO:Sort _}{wZ:Sort _}{xh:Sort _}{P0:jX->kh->lY->nO->wZ->xh->Prop}{G:Prop}(h:∃x0 x1 x2 x3 x4 x5,P0 x0 x1 x2 x3 x4 x5)(f:∀x0 x1 x2 x3 x4 x5,P0 x0 x1 x2 x3 x4 x5->G):G:=h.elim λx0 h=>h.elim λx1 h=>h.elim λx2 h=>h.elim λx3 h=>h.elim λx4 h=>h.elim λx5 h=>f x0 x1 x2 x3 x4 x5 h
theorem ae3{jX:Sort _}{kh:Sort _}{lY:Sort _}{nO:Sort _}{wZ:Sort _}{xh:Sort _}{zM:Sort _}{zN:Sort _}{P0:jX->kh->lY->nO->wZ->xh->zM->zN->Prop}{G:Prop}(h:∃x0 x1 x2 x3 x4 x5 x6 x7,P0 x0 x1 x2 x3 x4 x5 x6 x7)(f:∀x0 x1 x2 x3 x4 x5 x6 x7,P0 x0 x1 x2 x3 x4 x5 x6 x7->G):G:=h.elim λx0 h=>h.elim λx1 h=>h.elim λx2 h=>h.elim λx3 h=>h.elim λx4 h=>h.elim λx5 h=>h.elim λx6 h=>h.elim λx7 h=>f x0 x1 x2 x3 x4 x5 x6 x7 h
theorem zO{jX:Sort _}{kh:Sort _}{lY:Sort _}{nO:Sort _}{wZ:Sort _}{xh:Sort _}{zM:Sort _}{zN:Sort _}{Et:Sort _}{P0 P1 P2:jX->kh->lY->nO->wZ->xh->zM->zN->Et->Prop}{G:Prop}(h:∃x0 x1 x2 x3 x4 x5 x6 x7 x8,P0 x0 x1 x2 x3 x4 x5 x6 x7 x8/\P1 x0 x1 x2 x3 x4 x5 x6 x7 x8/\P2 x0 x1 x2 x3 x4 x5 x6 x7 x8)(f:∀x0 x1 x2 x3 x4 x5 x6 x7 x8,P0 x0 x1 x2 x3 x4 x5 x6 x7 x8->P1 x0 x1 x2 x3 x4 x5 x6 x7 x8->P2 x0 x1 x2 x3 x4 x5 x6 x7 x8->G):G:=h.elim λx0 h=>h.elim λx1 h=>h.elim λx2 h=>h.elim λx3 h=>h.elim λx4 h=>h.elim λx5 h=>h.elim λx6 h=>h.elim λx7 h=>h.elim λx8 h=>f x0 x1 x2 x3 x4 x5 x6 x7 x8 h.1 h.2.1 h.2.2
theorem ae4{jX:Sort _}{kh:Sort _}{lY:Sort _}{nO:Sort _}{wZ:Sort _}{xh:Sort _}{zM:Sort _}{zN:Sort _}{Et:Sort _}{P0 P1 P2:jX->kh->lY->nO->wZ->xh->zM->zN->Et->Prop}(x0:jX)(x1:kh)(x2:lY)(x3:nO)(x4:wZ)(x5:xh)(x6:zM)(x7:zN)(x8:Et)(h0:P0 x0 x1 x2 x3 x4 x5 x6 x7 x8)(h1:P1 x0 x1 x2 x3 x4 x5 x6 x7 x8)(h2:P2 x0 x1 x2 x3 x4 x5 x6 x7 x8):∃x0 x1 x2 x3 x4 x5 x6 x7 x8,P0 x0 x1 x2 x3 x4 x5 x6 x7 x8/\P1 x0 x1 x2 x3 x4 x5 x6 x7 x8/\P2 x0 x1 x2 x3 x4 x5 x6 x7 x8:=⟨x0,x1,x2,x3,x4,x5,x6,x7,x8,h0,h1,h2⟩
theorem xn{α:Type _}{a:α}{G:Prop}(h:none=some a):G:=nomatch h
theorem xm{α:Type _}{a:α}{G:Prop}(h:some a=none):G:=nomatch h
theorem xf{G:Prop}(h:false=true):G:=nomatch h
theorem xg{G:Prop}(h:true=false):G:=nomatch h
theorem xs{α:Type _}{a b:α}{G:Prop}(h:some a=some b)(f:a=b->G):G:=f (ai h)
theorem xp{α β:Type _}{a c:α}{b d:β}{G:Prop}(h:some (a,b)=some (c,d))(f:a=c->b=d->G):G:=by cases h;exact f rfl rfl
set_option backward.match.sparseCases false
noncomputable section
noncomputable abbrev pw:Program:=PySem.Challenge.pw_sm0034_01
noncomputable abbrev I(n:Int):Value:=.int n 0
noncomputable abbrev R(a:Nat):Value:=.ref a
noncomputable abbrev S(s:Str)(t:Nat):Value:=.str s t
noncomputable abbrev Z(t:Nat):Value:=.str "/claim/cut.py" t
noncomputable abbrev tO:Value:=.type "object"
noncomputable abbrev en(P:Params)(s:Str)(t:Nat)(v:Value):DictEntry:=⟨fU P s,.str s t,v⟩
noncomputable abbrev tp(l:List Value):Obj:=⟨.type "tuple",none,.seq l.toArray 0,#[]⟩
noncomputable abbrev cO(l:List Value):Obj:=⟨.type "code",none,.fields l.toArray,#[]⟩
noncomputable abbrev qt(l:List Value):Obj:=⟨.none,none,.fields l.toArray,#[]⟩
def QC(d:Nat):List Nat->List Value
|a::b::r=>I a::I d::R b::QC d r
|_=>[]
abbrev tr(d:Nat)(l:List Nat):Obj:=qt (QC d l)
noncomputable abbrev qE(f:FuncData):Obj:=⟨.type "function",none,.func f,#[]⟩
noncomputable abbrev rI(f:FuncData):Obj:=⟨.none,none,.func f,#[]⟩
noncomputable abbrev dO(n:Nat)(l:List DictEntry):Obj:=⟨.type "dict",none,.dict l.toArray n,#[]⟩
noncomputable abbrev fo(s:String)(l:List Value):Obj:=⟨.type s,none,.fields l.toArray,#[]⟩
abbrev bm(s:String)(v:Value):Obj:=fo "builtin_function_or_method" [.builtin s,v]
abbrev fr(a b:Nat)(v:Value):Obj:=⟨.type "frame",none,.plain,[some (R a),some (R 3),some (R b),none,some v,none,some (R 0)].toArray⟩
abbrev ty(n:Str)(b m:List Value)(ns:Nat)(sb:List Value)(x:Option Value)(t u:Nat):Obj:=⟨.type "type",none,.cls { name:=n,bases:=b,mro:=m,ns:=ns,qualname:=n,hasDict:=true,slotNames:=[],subclasses:=sb,abstract:=false,collection:=none,hasDel:=false },[x,none,some (S n t),some (S n u),some (.builtin "object.__new__"),some (.bool true)].toArray⟩
abbrev cc(n:Str)(t ln a:Nat):Obj:=cO [S n t,S n (t+1),Z (t+2),I ln,I 0,I 0,I 0,I 0,R a,.bool false,I 181,R (a+1),.none,.none,.none,.none,I (t+3:Nat),I ln,Z (t+4)]
def dA(i:Nat):Stmt:=(behindTheImports pw).getD i (.Pass default)
def mA(i j:Nat):Stmt:=match dA i with
|.ClassDef _ _ _ b _ _ _ _ _ _ _=>b.getD j (.Pass default)
|_=>.Pass default
noncomputable def fD(st:Stmt)(qual:Str)(dV kV doc pm:Value)(an:Option Addr)(cd ct:Value)(gl bl:Addr):FuncData:=match st with
|.FunctionDef n a b _ _ _ sc _ _ _=>{ name:=n,qualname:=qual,params:=a,body:=.stmts b,scope:=sc,globals:=gl,closure:=[],defaults:=dV,kwdefaults:=kV,doc:=doc,pyModule:=pm,annotations:=an,code:=cd,closureTuple:=ct,builtins:=bl }
|_=>default
def vn:Nat->List Str->List Value
|_,[]=>[]
|t,s::r=>S s t::vn (t+1) r
def ff(a t:Nat)(st:Stmt)(n q:Str)(ln na:Nat)(vs:List Str)(df mo:Value):List Obj:=
 [tp [],qt [],tp (vn (t+3) vs),tp [],rI (fD st q .none .none .none .none none .none .none 0 0),
  cO [S n t,S q (t+1),Z (t+2),I ln,I na,I 0,I 0,I 3,R a,.bool true,I 181,R (a+1),.none,R (a+2),R (a+3),R (a+4),I (t+3+vs.length:Nat),I ln,Z (t+4+vs.length)],
  qE (fD st q df .none .none mo none (R (a+5)) .none 3 0)]
abbrev fd(a t:Nat)(st:Stmt)(n:Str):=ff a t st n n
structure Kl where
 a:Nat
 t:Nat
 ln:Nat
 u:Nat
 f:Nat
 n:Str
 m:Value
 ms:List (Str×Nat×Nat×Nat)
noncomputable abbrev qm(s:Str)(x y z:Nat):Str×Nat×Nat×Nat:=(s,x,y,z)
def me(P:Params)(k:Kl)(l:List DictEntry):List DictEntry:=(k.ms.map λx=>en P x.1 x.2.1 (R x.2.2.1))++en P "__static_attributes__" k.u (R k.f)::l
noncomputable def tm:List (Str×Nat×Nat×Nat)->List Nat
|[]=>[]
|x::r=>x.2.2.2::(x.2.2.1 - 1)::tm r
def hd(P:Params)(k:Kl)(b:List Value):List Obj:=[tp b,bm "type.__prepare__" (.type "type"),dO (4+k.ms.length) (en P "__module__" (k.t+5) k.m::en P "__qualname__" (k.t+7) (S k.n (k.t+6))::en P "__firstlineno__" (k.t+9) (.int k.ln (k.t+8))::me P k []),tp [],tr 4 (tm k.ms),cc k.n k.t k.ln (k.a+3),fr (k.a+5) (k.a+2) k.m]
def fp(P:Params)(k:Kl)(s:List Str)(n:Nat)(l:List DictEntry)(b m sb:List Value)(x:Option Value):List Obj:=[tp (vn (k.u - s.length) s),dO n (en P "__module__" (k.t+5) k.m::en P "__firstlineno__" (k.t+9) (.int k.ln (k.t+8))::me P k l),ty k.n b (R (k.f+2)::m) (k.f+1) sb x (k.t - 2) (k.t+6)]
def fq(k:Kl):List Obj:=[fo "super" [R (k.f+2),R (k.f+2),R (k.f+2)],bm "object.__init_subclass__" (R (k.f+2))]
def fb(P:Params)(k:Kl)(s:List Str)(sb:List Value):List Obj:=fp P k s 4 [en P "__dict__" (k.u+2) (R (k.f+3)),en P "__weakref__" (k.u+4) (R (k.f+4)),en P "__doc__" (k.u+5) .none] [tO] [tO] sb none++fo "getset_descriptor" [S "__dict__" (k.u+1),R (k.f+2),.builtin "function.__dict__",.builtin "function.__dict__#set"]::fo "getset_descriptor" [S "__weakref__" (k.u+3),R (k.f+2),.builtin "ExceptionGroup.__weakref__",.none]::fq k
def fv(P:Params)(k:Kl)(b:Value)(s:List Str):List Obj:=fp P k s 2 [en P "__doc__" (k.u+1) .none] [b] [b,tO] [] (some (R k.a))++fq k
abbrev M0:Value:=S "gemrows.things" 194
abbrev M1:Value:=S "gemrows.lines" 615
abbrev M2:Value:=S "gemrows.machine" 819
abbrev M3:Value:=S "gemrows.machinecalls" 940
abbrev M4:Value:=S "gemrows.errors" 1006
abbrev M5:Value:=S "gemrows.walk" 1061
abbrev M6:Value:=S "gemrows.world" 1348
abbrev M7:Value:=S "law_sm0034_01" 1873
def k0:Kl:=⟨22,202,7,227,36,"Thing",M0,[qm "__init__" 220 35 9]⟩
def k1:Kl:=⟨43,237,16,259,58,"Text",M0,[qm "__init__" 257 57 18]⟩
def k2:Kl:=⟨63,265,21,286,78,"ListThing",M0,[qm "__init__" 284 77 23]⟩
def k3:Kl:=⟨83,292,26,338,116,"TableThing",M0,[qm "__init__" 310 96 28,qm "put" 321 103 33,qm "row" 329 110 41,qm "pairs" 335 115 44]⟩
def k4:Kl:=⟨121,344,46,369,136,"RangeThing",M0,[qm "__init__" 365 135 48]⟩
def k5:Kl:=⟨141,375,53,412,157,"ProcThing",M0,[qm "__init__" 402 156 55]⟩
def k6:Kl:=⟨162,418,66,440,177,"ErrorThing",M0,[qm "__init__" 437 176 68]⟩
def k7:Kl:=⟨182,446,72,470,197,"FiberThing",M0,[qm "__init__" 465 196 74]⟩
def k8:Kl:=⟨202,476,80,517,224,"ModuleThing",M0,[qm "__init__" 498 216 82,qm "is_own" 505 223 96]⟩
def k9:Kl:=⟨229,523,98,567,252,"Entry",M0,[qm "__init__" 546 243 100,qm "moved" 557 251 111]⟩
def QD:Kl:=⟨324,676,207,686,331,"GivenEntry",M1,[]⟩
def QG:Kl:=⟨427,823,281,870,449,"Call",M2,[qm "__init__" 848 441 283,qm "copy_for" 858 448 296]⟩
def QH:Kl:=⟨456,880,298,932,484,"Frame",M2,[qm "__init__" 901 469 300,qm "pop" 910 476 314,qm "is_meant" 919 483 321]⟩
def QI:Kl:=⟨491,944,324,987,513,"Sent",M3,[qm "__init__" 968 505 326,qm "renamed" 978 512 336]⟩
def k14:Kl:=⟨527,1010,346,1030,542,"GemError",M4,[qm "__init__" 1028 541 348]⟩
def k15:Kl:=⟨548,1038,351,1057,562,"Raised",M4,[qm "__init__" 1055 561 353]⟩
def QJ:Kl:=⟨574,1075,367,1098,589,"Way",M5,[qm "__init__" 1094 588 369]⟩
def QK:Kl:=⟨596,1108,373,1158,631,"Env",M5,[qm "__init__" 1127 609 375,qm "holder" 1136 616 380,qm "get" 1145 623 386,qm "set" 1154 630 390]⟩
def QL:Kl:=⟨638,1168,392,1196,653,"Task",M5,[qm "__init__" 1188 652 394]⟩
def QM:Kl:=⟨660,1206,402,1326,752,"Walker",M5,[qm "__init__" 1225 673 404,qm "enter" 1233 680 412,qm "go" 1242 687 415,qm "send" 1256 695 418,qm "done" 1264 702 421,qm "leave" 1272 709 424,qm "deliver" 1280 716 428,qm "going" 1288 723 431,qm "raise_error" 1296 730 434,qm "fail" 1305 737 438,qm "step" 1312 744 441,qm "run" 1319 751 444]⟩
def QN:Kl:=⟨779,1501,461,1865,1052,"World",M6,[qm "__init__" 1523 793 463,qm "tick" 1530 800 484,qm "write" 1538 807 487,qm "number" 1545 814 490,qm "next_ident" 1552 821 494,qm "ident" 1561 828 498,qm "builtin" 1570 835 514,qm "make_builtin" 1576 840 518,qm "give_own" 1584 847 531,qm "new_module" 1599 855 535,qm "class_of" 1607 862 544,qm "own_of" 1615 869 553,qm "own_behind" 1624 876 560,qm "root_of" 1632 883 568,qm "real_class" 1640 890 573,qm "text" 1648 897 578,qm "list_of" 1656 904 581,qm "table_of" 1664 911 584,qm "key_of" 1672 918 587,qm "range_of" 1682 925 590,qm "proc" 1699 932 593,qm "thing" 1709 939 597,qm "is_error_class" 1717 946 623,qm "spread" 1725 953 630,qm "numbers_of" 1733 960 633,qm "need_size" 1741 967 636,qm "sized_text" 1749 974 639,qm "error" 1758 981 642,qm "fail" 1767 988 645,qm "need_thawed" 1775 995 648,qm "set_field" 1785 1002 651,qm "describe" 1793 1009 654,qm "own_constant" 1802 1016 657,qm "find_constant" 1811 1023 660,qm "constant" 1820 1030 663,qm "find_in" 1829 1037 666,qm "constant_in" 1838 1044 669,qm "set_constant" 1848 1051 672]⟩
def ge(P:Params):List DictEntry:=
 [en P "__doc__" 166 .none,
 en P "__package__" 167 .none,
 en P "__loader__" 168 (.builtin "__main__.__loader__#opaque"),
 en P "__spec__" 169 .none,
 en P "__annotations__" 170 (R 6),
 en P "__builtins__" 171 (R 4),
 en P "__file__" 173 (Z 172),
 en P "__cached__" 174 .none,
 en P "_wall" 193 (R 21),
 en P "DEEPEST_KEY" 197 (.int (12) 196),
 en P "MOST_SEEN" 199 (.int (20000) 198),
 en P "Thing" 234 (R 38),
 en P "Text" 262 (R 60),
 en P "ListThing" 289 (R 80),
 en P "TableThing" 341 (R 118),
 en P "RangeThing" 372 (R 138),
 en P "ProcThing" 415 (R 159),
 en P "ErrorThing" 443 (R 179),
 en P "FiberThing" 473 (R 199),
 en P "ModuleThing" 520 (R 226),
 en P "Entry" 574 (R 254),
 en P "sort_of" 581 (R 265),
 en P "same" 590 (R 272),
 en P "takes_in" 598 (R 279),
 en P "code_of" 604 (R 285),
 en P "full_name" 614 (R 292),
 en P "has_thing" 625 (R 299),
 en P "own_line" 631 (R 304),
 en P "numbered" 637 (R 309),
 en P "made_line" 643 (R 314),
 en P "line_of" 654 (R 321),
 en P "PRIVATE_NAMES" 659 (R 322),
 en P "PRIVATE_KERNEL" 673 (R 323),
 en P "GivenEntry" 689 (R 333),
 en P "sight_of" 697 (R 342),
 en P "given_entry" 714 (R 349),
 en P "entry_at" 724 (R 356),
 en P "first_entry" 736 (R 363),
 en P "find" 745 (R 370),
 en P "raise_version" 752 (R 377),
 en P "own_module" 762 (R 384),
 en P "class_above" 769 (R 391),
 en P "make_own" 779 (R 398),
 en P "copied" 787 (R 405),
 en P "is_a" 796 (R 412),
 en P "respond" 807 (R 419),
 en P "may_send" 818 (R 426),
 en P "Call" 877 (R 451),
 en P "Frame" 939 (R 486),
 en P "Sent" 994 (R 515),
 en P "is_hidden" 1005 (R 526),
 en P "GemError" 1035 (R 544),
 en P "Raised" 1060 (R 564),
 en P "give_cause" 1072 (R 573),
 en P "Way" 1105 (R 591),
 en P "Env" 1165 (R 633),
 en P "Task" 1203 (R 655),
 en P "Walker" 1333 (R 754),
 en P "refusal" 1347 (R 765),
 en P "MODULES" 1353 (R 766),
 en P "BUILTINS" 1470 (R 767),
 en P "MIXED" 1492 (R 770),
 en P "UNMADE" 1498 (R 778),
 en P "World" 1872 (R 1054),
 en P "_law_above" 1880 (R 1065),
 en P "_law_within" 1886 (R 1072),
 en P "_law_counted" 1892 (R 1079),
 en P "_law_who" 1898 (R 1086),
 en P "_law_heads" 1904 (R 1093),
 en P "_law_senders" 1910 (R 1100),
 en P "_law_well" 1920 (R 1107),
 en P "_law_draw" 1930 (R 1114),
 en P "_law_single" 1941 (R 1121),
 en P "_law_mixed" 1947 (R 1126),
 en P "_law_entries" 1964 (R 1133),
 en P "_law_books" 1976 (R 1140),
 en P "_law_made" 1982 (R 1145),
 en P "_law_circle" 1992 (R 1152),
 en P "_law_line" 1998 (R 1157),
 en P "_law_found" 2004 (R 1162),
 en P "_law_agreed" 2010 (R 1167),
 en P "law" 2016 (R 1172)]
def gO(P:Params)(k:Nat)(v:Value):Obj:=dO (k+1) (en P "__name__" 165 v::(ge P).take k)
def o3(P:Params):Obj:=gO P 82 M7
noncomputable def tn:List Nat:=[1,20,7,27,16,48,21,68,26,88,46,126,53,146,66,167,72,187,80,207,98,234,117,264,125,271,130,278,135,284,150,291,166,298,171,303,183,308,185,313,195,320,207,329,209,341,213,348,226,355,233,362,243,369,245,376,247,383,259,390,261,397,268,404,270,411,272,418,275,425,281,432,298,461,324,496,338,525,346,532,351,553,357,572,367,579,373,601,392,643,402,665,447,764,461,784,675,1064,677,1071,679,1078,681,1085,683,1092,685,1099,687,1106,694,1113,702,1120,718,1125,726,1132,739,1139,750,1144,774,1151,782,1156,792,1161,799,1166,821,1171]
def ch0(P:Params):List Obj:=
 [boot_o_0 P,boot_o_1 P,boot_o_2 P,o3 P,boot_o_4 P,boot_o_5 P,boot_o_6 P,boot_o_7 P,boot_o_8 P,boot_o_9 P,boot_o_10 P,tp [],tr 0 tn,cO [(S "<module>" 182),(S "<module>" 183),(Z 184),(I 1),(I 0),(I 0),(I 0),(I 0),(R 11),(.bool false),(I 181),(R 12),.none,.none,.none,.none,(I 185),(I 1),(Z 186)],fr 13 3 (S "__main__" 164)] ++
 fd 15 187 (dA 0) "_wall" 1 1 ["k"] .none (S "__main__" 164) ++
 hd P k0 [] ++
 ff 29 212 (mA 4 0) "__init__" "Thing.__init__" 9 3 ["self","number","owner"] .none M0 ++
 fb P k0 ["fields","frozen","ident","number","own","owner"] [(R 60),(R 80),(R 118),(R 138),(R 159),(R 179),(R 199),(R 226)] ++
 hd P k1 [(R 38)] ++
 [tp [(S "" 247)]] ++
 ff 51 248 (mA 5 0) "__init__" "Text.__init__" 18 4 ["self","number","owner","text"] (R 50) M0 ++
 fv P k1 (R 38) ["text"] ++
 hd P k2 [(R 38)] ++
 [tp [.none]] ++
 ff 71 275 (mA 6 0) "__init__" "ListThing.__init__" 23 4 ["self","number","owner","items"] (R 70) M0 ++
 fv P k2 (R 38) ["items"] ++
 hd P k3 [(R 38)] ++
 ff 90 302 (mA 7 0) "__init__" "TableThing.__init__" 28 3 ["self","number","owner"] .none M0 ++
 ff 97 311 (mA 7 1) "put" "TableThing.put" 33 3 ["self","key","value","code","row"] .none M0 ++
 ff 104 322 (mA 7 2) "row" "TableThing.row" 41 2 ["self","key"] .none M0 ++
 [tp [],qt [],rI (fD (mA 7 3) "TableThing.pairs" .none .none .none .none none .none .none 0 0),cO [(S "pairs" 330),(S "TableThing.pairs" 331),(Z 332),(I 44),(I 1),(I 0),(I 0),(I 3),(R 111),(.bool true),(I 181),(R 112),.none,.none,.none,(R 113),(I 333),(I 44),(Z 334)],qE (fD (mA 7 3) "TableThing.pairs" .none .none .none M0 none (R 114) .none 3 0)] ++
 fv P k3 (R 38) ["rows","spare"] ++
 hd P k4 [(R 38)] ++
 [tp [.none,.none,(.bool false)]] ++
 ff 129 354 (mA 8 0) "__init__" "RangeThing.__init__" 48 6 ["self","number","owner","first","last","is_open"] (R 128) M0 ++
 fv P k4 (R 38) ["first","last","open"] ++
 hd P k5 [(R 38)]
def ch1(P:Params):List Obj:=
 [tp [],tp [.none,.none,.none,.none,(R 148),.none,.none,(.bool false),.none]] ++
 ff 150 385 (mA 9 0) "__init__" "ProcThing.__init__" 55 12 ["self","number","owner","params","body","env","self_value","nesting","home","site","is_lambda","definer"] (R 149) M0 ++
 fv P k5 (R 38) ["body","definer","env","home","is_lambda","nesting","params","self_value","site"] ++
 hd P k6 [(R 38)] ++
 [tp [.none]] ++
 ff 170 428 (mA 10 0) "__init__" "ErrorThing.__init__" 68 4 ["self","number","owner","message"] (R 169) M0 ++
 fv P k6 (R 38) ["cause","message"] ++
 hd P k7 [(R 38)] ++
 [tp [.none]] ++
 ff 190 456 (mA 11 0) "__init__" "FiberThing.__init__" 74 4 ["self","number","owner","proc"] (R 189) M0 ++
 fv P k7 (R 38) ["back","proc","rows","state"] ++
 hd P k8 [(R 38)] ++
 [tp [.none,(.bool false),.none,.none]] ++
 ff 210 486 (mA 12 0) "__init__" "ModuleThing.__init__" 82 7 ["self","number","owner","name","is_class","parent","outer"] (R 209) M0 ++
 ff 217 499 (mA 12 1) "is_own" "ModuleThing.is_own" 96 1 ["self"] .none M0 ++
 fv P k8 (R 38) ["ahead","attached","constants","is_class","kept","methods","mixed","name","native","outer","parent"] ++
 hd P k9 [] ++
 [tp [.none,.none,(S "public" 533)]] ++
 ff 237 534 (mA 13 0) "__init__" "Entry.__init__" 100 7 ["self","name","owner","sort","params","body","sight"] (R 236) M0 ++
 [tp [.none]] ++
 ff 245 547 (mA 13 1) "moved" "Entry.moved" 111 4 ["self","name","owner","sight","found"] (R 244) M0 ++
 fb P k9 ["body","code","definer","name","nesting","owner","params","sight","sort"] [(R 333)] ++
 fd 259 575 (dA 14) "sort_of" 117 1 ["value"] .none M0 ++
 fd 266 582 (dA 15) "same" 125 2 ["one","other","sort"] .none M0
def ch2(P:Params):List Obj:=
 fd 273 591 (dA 16) "takes_in" 130 2 ["room","many"] .none M0 ++
 [tp [(.int (12) 196),.none],tp [],qt [],rI (fD (dA 17) "code_of" .none .none .none .none none .none .none 0 0),cO [(S "code_of" 599),(S "code_of" 600),(Z 601),(I 135),(I 3),(I 0),(I 0),(I 3),(R 281),(.bool true),(I 181),(R 282),.none,.none,.none,(R 283),(I 602),(I 135),(Z 603)],qE (fD (dA 17) "code_of" (R 280) .none .none M0 none (R 284) .none 3 0)] ++
 fd 286 605 (dA 18) "full_name" 150 1 ["module","ahead","behind","met"] .none M0 ++
 fd 293 617 (dA 20) "has_thing" 166 2 ["things","one","thing"] .none M1 ++
 [tp [],qt [],rI (fD (dA 21) "own_line" .none .none .none .none none .none .none 0 0),cO [(S "own_line" 626),(S "own_line" 627),(Z 628),(I 171),(I 1),(I 0),(I 0),(I 3),(R 300),(.bool true),(I 181),(R 301),.none,.none,.none,(R 302),(I 629),(I 171),(Z 630)],qE (fD (dA 21) "own_line" .none .none .none M1 none (R 303) .none 3 0),tp [],qt [],rI (fD (dA 22) "numbered" .none .none .none .none none .none .none 0 0),cO [(S "numbered" 632),(S "numbered" 633),(Z 634),(I 183),(I 1),(I 0),(I 0),(I 3),(R 305),(.bool true),(I 181),(R 306),.none,.none,.none,(R 307),(I 635),(I 183),(Z 636)],qE (fD (dA 22) "numbered" .none .none .none M1 none (R 308) .none 3 0),tp [],qt [],rI (fD (dA 23) "made_line" .none .none .none .none none .none .none 0 0),cO [(S "made_line" 638),(S "made_line" 639),(Z 640),(I 185),(I 2),(I 0),(I 0),(I 3),(R 310),(.bool true),(I 181),(R 311),.none,.none,.none,(R 312),(I 641),(I 185),(Z 642)],qE (fD (dA 23) "made_line" .none .none .none M1 none (R 313) .none 3 0)] ++
 fd 315 644 (dA 24) "line_of" 195 2 ["world","module","waiting","line","one"] .none M1 ++
 [tp [(S "initialize" 655),(S "initialize_copy" 656),(S "method_missing" 657),(S "respond_to_missing?" 658)],tp [(S "puts" 660),(S "print" 661),(S "p" 662),(S "raise" 663),(S "loop" 664),(S "catch" 665),(S "throw" 666),(S "proc" 667),(S "lambda" 668),(S "block_given?" 669),(S "Array" 670),(S "Integer" 671),(S "__write" 672)]] ++
 hd P QD [(R 254)] ++
 fv P QD (R 254) [] ++
 fd 336 690 (dA 28) "sight_of" 209 2 ["module","name"] .none M1 ++
 fd 343 698 (dA 29) "given_entry" 213 3 ["world","module","name","body","sort","source","node","singleton","told","params","tree"] .none M1 ++
 fd 350 715 (dA 30) "entry_at" 226 3 ["world","module","name","found"] .none M1 ++
 fd 357 725 (dA 31) "first_entry" 233 3 ["world","line","name","sight","module","found"] .none M1 ++
 fd 364 737 (dA 32) "find" 243 3 ["world","module","name"] .none M1 ++
 fd 371 746 (dA 33) "raise_version" 245 1 ["world"] .none M1 ++
 fd 378 753 (dA 34) "own_module" 247 2 ["world","value","waiting","one"] .none M1 ++
 fd 385 763 (dA 35) "class_above" 259 1 ["value"] .none M1 ++
 fd 392 770 (dA 36) "make_own" 261 2 ["world","value","above","parent"] .none M1 ++
 fd 399 780 (dA 37) "copied" 268 2 ["entry","sight"] .none M1 ++
 fd 406 788 (dA 38) "is_a" 270 3 ["world","value","module"] .none M1 ++
 fd 413 797 (dA 39) "respond" 272 4 ["world","value","name","everything","found"] .none M1 ++
 fd 420 808 (dA 40) "may_send" 275 4 ["world","sender","value","name","found"] .none M1 ++
 hd P QG [] ++
 [tp [(.bool false)]]
def ch3(P:Params):List Obj:=
 ff 435 833 (mA 42 0) "__init__" "Call.__init__" 283 10 ["self","self_value","entry","args","block","number","nesting","definer","sort","is_lambda"] (R 434) M2 ++
 ff 442 849 (mA 42 1) "copy_for" "Call.copy_for" 296 4 ["self","self_value","nesting","definer"] .none M2 ++
 fb P QG ["args","block","definer","entry","is_lambda","nesting","number","scope","self_value","sight","sort"] [] ++
 hd P QH [] ++
 ff 463 890 (mA 43 0) "__init__" "Frame.__init__" 300 6 ["self","code","pc","stack","scope","call"] .none M2 ++
 ff 470 902 (mA 43 1) "pop" "Frame.pop" 314 2 ["self","count","found"] .none M2 ++
 ff 477 911 (mA 43 2) "is_meant" "Frame.is_meant" 321 3 ["self","sort","tag"] .none M2 ++
 fb P QH ["after","call","code","held","number","pc","proc","scope","sight","stack","tag","waits"] [] ++
 hd P QI [] ++
 [tp [.none,(S "call" 954),.none,.none]] ++
 ff 499 955 (mA 45 0) "__init__" "Sent.__init__" 326 8 ["self","receiver","name","args","block","kind","after","held"] (R 498) M3 ++
 ff 506 969 (mA 45 1) "renamed" "Sent.renamed" 336 4 ["self","name","args","kind"] .none M3 ++
 fb P QI ["after","args","block","held","is_written","kind","name","receiver"] [] ++
 fd 520 995 (dA 46) "is_hidden" 338 4 ["machine","frame","sent","entry","owner"] .none M3 ++
 hd P k14 [(.type "ValueError")] ++
 [tp [(S "" 1020)]] ++
 ff 535 1021 (mA 48 0) "__init__" "GemError.__init__" 348 2 ["self","reason"] (R 534) M4 ++
 [tp [(S "reason" 1029)],dO 3 [en P "__module__" 1015 M4,en P "__firstlineno__" 1019 (.int (346) 1018),en P "__init__" 1028 (R 541),en P "__static_attributes__" 1030 (R 542),en P "__weakref__" 1032 (R 545),en P "__doc__" 1033 .none],⟨(.type "type"),none,(.cls { name:="GemError",bases:=[(.type "ValueError")],mro:=[(R 544),(.type "ValueError"),(.type "Exception"),(.type "BaseException"),tO],ns:=543,qualname:="GemError",hasDict:=true,slotNames:=[],subclasses:=[(R 564)],abstract:=false,collection:=none,hasDel:=false }),[(some (R 527)),none,(some (S "GemError" 1008)),(some (S "GemError" 1016)),(some (.builtin "ValueError.__new__")),(some (.bool true))].toArray⟩,fo "getset_descriptor" [(S "__weakref__" 1031),(R 544),(.builtin "ExceptionGroup.__weakref__"),.none],fo "super" [(R 544),(R 544),(R 544)],bm "object.__init_subclass__" (R 544)] ++
 hd P k15 [(R 544)] ++
 ff 555 1048 (mA 49 0) "__init__" "Raised.__init__" 353 2 ["self","thing"] .none M4 ++
 [tp [(S "thing" 1056)],dO 2 [en P "__module__" 1043 M4,en P "__firstlineno__" 1047 (.int (351) 1046),en P "__init__" 1055 (R 561),en P "__static_attributes__" 1057 (R 562),en P "__doc__" 1058 .none],⟨(.type "type"),none,(.cls { name:="Raised",bases:=[(R 544)],mro:=[(R 564),(R 544),(.type "ValueError"),(.type "Exception"),(.type "BaseException"),tO],ns:=563,qualname:="Raised",hasDict:=true,slotNames:=[],subclasses:=[],abstract:=false,collection:=none,hasDel:=false }),[(some (R 548)),none,(some (S "Raised" 1036)),(some (S "Raised" 1044)),(some (.builtin "ValueError.__new__")),(some (.bool true))].toArray⟩,fo "super" [(R 564),(R 564),(R 564)],bm "object.__init_subclass__" (R 564)] ++
 fd 567 1063 (dA 51) "give_cause" 357 2 ["world","thing","before","here"] .none M5 ++
 hd P QJ [] ++
 [tp [.none,.none]]
def ch4(P:Params):List Obj:=
 ff 582 1085 (mA 52 0) "__init__" "Way.__init__" 369 4 ["self","sort","value","tag"] (R 581) M5 ++
 fb P QJ ["sort","tag","value"] [] ++
 hd P QK [] ++
 ff 603 1118 (mA 53 0) "__init__" "Env.__init__" 375 4 ["self","names","outer","call"] .none M5 ++
 ff 610 1128 (mA 53 1) "holder" "Env.holder" 380 2 ["self","name","here"] .none M5 ++
 ff 617 1137 (mA 53 2) "get" "Env.get" 386 2 ["self","name","here"] .none M5 ++
 ff 624 1146 (mA 53 3) "set" "Env.set" 390 3 ["self","name","value"] .none M5 ++
 fb P QK ["call","names","outer"] [] ++
 hd P QL [] ++
 [tp [.none]] ++
 ff 646 1178 (mA 54 0) "__init__" "Task.__init__" 394 5 ["self","kind","node","env","number"] (R 645) M5 ++
 fb P QL ["env","held","kept","kind","node","number","state"] [] ++
 hd P QM [] ++
 ff 667 1216 (mA 55 0) "__init__" "Walker.__init__" 404 4 ["self","world","table","catches"] .none M5 ++
 ff 674 1226 (mA 55 1) "enter" "Walker.enter" 412 2 ["self","task"] .none M5 ++
 ff 681 1234 (mA 55 2) "go" "Walker.go" 415 3 ["self","node","env"] .none M5 ++
 [tp [.none,(S "call" 1243),.none]] ++
 ff 689 1244 (mA 55 3) "send" "Walker.send" 418 7 ["self","receiver","name","args","block","how","env"] (R 688) M5 ++
 ff 696 1257 (mA 55 4) "done" "Walker.done" 421 2 ["self","value"] .none M5 ++
 ff 703 1265 (mA 55 5) "leave" "Walker.leave" 424 2 ["self","way"] .none M5 ++
 ff 710 1273 (mA 55 6) "deliver" "Walker.deliver" 428 2 ["self","way"] .none M5 ++
 ff 717 1281 (mA 55 7) "going" "Walker.going" 431 2 ["self","number"] .none M5 ++
 ff 724 1289 (mA 55 8) "raise_error" "Walker.raise_error" 434 2 ["self","thing"] .none M5 ++
 ff 731 1297 (mA 55 9) "fail" "Walker.fail" 438 3 ["self","kind","message"] .none M5
def ch5(P:Params):List Obj:=
 ff 738 1306 (mA 55 10) "step" "Walker.step" 441 1 ["self"] .none M5 ++
 ff 745 1313 (mA 55 11) "run" "Walker.run" 444 1 ["self"] .none M5 ++
 fb P QM ["catches","fiber","stack","table","way","world"] [] ++
 fd 759 1336 (dA 57) "refusal" 447 5 ["world","task","receiver","entry","how","owner"] .none (S "gemrows.walkcalls" 1334) ++
 [tp [(S "Kernel" 1350),(S "Comparable" 1351),(S "Enumerable" 1352)],dO 40 [en P "BasicObject" 1354 .none,en P "Object" 1356 (S "BasicObject" 1357),en P "Module" 1359 (S "Object" 1360),en P "Class" 1362 (S "Module" 1363),en P "Kernel" 1365 .none,en P "Comparable" 1367 .none,en P "Enumerable" 1369 .none,en P "NilClass" 1371 (S "Object" 1372),en P "TrueClass" 1374 (S "Object" 1375),en P "FalseClass" 1377 (S "Object" 1378),en P "Numeric" 1380 (S "Object" 1381),en P "Integer" 1383 (S "Numeric" 1384),en P "String" 1386 (S "Object" 1387),en P "Symbol" 1389 (S "Object" 1390),en P "Array" 1392 (S "Object" 1393),en P "Hash" 1395 (S "Object" 1396),en P "Range" 1398 (S "Object" 1399),en P "Proc" 1401 (S "Object" 1402),en P "Fiber" 1404 (S "Object" 1405),en P "Exception" 1407 (S "Object" 1408),en P "ScriptError" 1410 (S "Exception" 1411),en P "NotImplementedError" 1413 (S "ScriptError" 1414),en P "SystemStackError" 1416 (S "Exception" 1417),en P "StandardError" 1419 (S "Exception" 1420),en P "ArgumentError" 1422 (S "StandardError" 1423),en P "UncaughtThrowError" 1425 (S "ArgumentError" 1426),en P "FiberError" 1428 (S "StandardError" 1429),en P "IndexError" 1431 (S "StandardError" 1432),en P "KeyError" 1434 (S "IndexError" 1435),en P "StopIteration" 1437 (S "IndexError" 1438),en P "LocalJumpError" 1440 (S "StandardError" 1441),en P "NameError" 1443 (S "StandardError" 1444),en P "NoMethodError" 1446 (S "NameError" 1447),en P "NoMatchingPatternError" 1449 (S "StandardError" 1450),en P "NoMatchingPatternKeyError" 1452 (S "NoMatchingPatternError" 1453),en P "RangeError" 1454 (S "StandardError" 1455),en P "RuntimeError" 1456 (S "StandardError" 1457),en P "FrozenError" 1458 (S "RuntimeError" 1459),en P "TypeError" 1460 (S "StandardError" 1461),en P "ZeroDivisionError" 1462 (S "StandardError" 1463)],dO 17 [en P "Proc" 1401 (S "Object" 1402),en P "Fiber" 1404 (S "Object" 1405),en P "Exception" 1407 (S "Object" 1408),en P "ScriptError" 1410 (S "Exception" 1411),en P "NotImplementedError" 1413 (S "ScriptError" 1414),en P "SystemStackError" 1416 (S "Exception" 1417),en P "StandardError" 1419 (S "Exception" 1420),en P "ArgumentError" 1422 (S "StandardError" 1423),en P "UncaughtThrowError" 1425 (S "ArgumentError" 1426),en P "FiberError" 1428 (S "StandardError" 1429),en P "IndexError" 1431 (S "StandardError" 1432),en P "KeyError" 1434 (S "IndexError" 1435),en P "StopIteration" 1437 (S "IndexError" 1438),en P "LocalJumpError" 1440 (S "StandardError" 1441),en P "NameError" 1443 (S "StandardError" 1444),en P "NoMethodError" 1446 (S "NameError" 1447),en P "NoMatchingPatternError" 1449 (S "StandardError" 1450)],dO 6 [en P "NoMatchingPatternKeyError" 1452 (S "NoMatchingPatternError" 1453),en P "RangeError" 1454 (S "StandardError" 1455),en P "RuntimeError" 1456 (S "StandardError" 1457),en P "FrozenError" 1458 (S "RuntimeError" 1459),en P "TypeError" 1460 (S "StandardError" 1461),en P "ZeroDivisionError" 1462 (S "StandardError" 1463)],dO 7 [en P "Object" 1471 (R 771),en P "Numeric" 1473 (R 772),en P "String" 1475 (R 773),en P "Symbol" 1477 (R 774),en P "Array" 1479 (R 775),en P "Hash" 1481 (R 776),en P "Range" 1483 (R 777)],tp [(S "Kernel" 1472)],tp [(S "Comparable" 1474)],tp [(S "Comparable" 1476)],tp [(S "Comparable" 1478)],tp [(S "Enumerable" 1480)],tp [(S "Enumerable" 1482)],tp [(S "Enumerable" 1484)],tp [(S "NilClass" 1493),(S "TrueClass" 1494),(S "FalseClass" 1495),(S "Integer" 1496),(S "Symbol" 1497)]] ++
 hd P QN [] ++
 [tp [.none,.none,(.int (20000) 1511)]] ++
 ff 787 1512 (mA 63 0) "__init__" "World.__init__" 463 5 ["self","natives","prelude","read","most","name"] (R 786) M6 ++
 ff 794 1524 (mA 63 1) "tick" "World.tick" 484 1 ["self"] .none M6 ++
 ff 801 1531 (mA 63 2) "write" "World.write" 487 2 ["self","text"] .none M6 ++
 ff 808 1539 (mA 63 3) "number" "World.number" 490 1 ["self"] .none M6 ++
 ff 815 1546 (mA 63 4) "next_ident" "World.next_ident" 494 1 ["self"] .none M6 ++
 ff 822 1553 (mA 63 5) "ident" "World.ident" 498 2 ["self","value","sort"] .none M6 ++
 ff 829 1562 (mA 63 6) "builtin" "World.builtin" 514 2 ["self","name","found"] .none M6 ++
 [tp [],qt [],rI (fD (mA 63 7) "World.make_builtin" .none .none .none .none none .none .none 0 0),cO [(S "make_builtin" 1571),(S "World.make_builtin" 1572),(Z 1573),(I 518),(I 2),(I 0),(I 0),(I 3),(R 836),(.bool true),(I 181),(R 837),.none,.none,.none,(R 838),(I 1574),(I 518),(Z 1575)],qE (fD (mA 63 7) "World.make_builtin" .none .none .none M6 none (R 839) .none 3 0)] ++
 ff 841 1577 (mA 63 8) "give_own" "World.give_own" 531 2 ["self","name"] .none M6 ++
 [tp [.none,.none,.none]] ++
 ff 849 1585 (mA 63 9) "new_module" "World.new_module" 535 6 ["self","name","is_class","parent","outer","attached","owner","stands","found"] (R 848) M6 ++
 ff 856 1600 (mA 63 10) "class_of" "World.class_of" 544 2 ["self","value"] .none M6 ++
 ff 863 1608 (mA 63 11) "own_of" "World.own_of" 553 2 ["self","value"] .none M6 ++
 ff 870 1616 (mA 63 12) "own_behind" "World.own_behind" 560 2 ["self","module","behind"] .none M6 ++
 ff 877 1625 (mA 63 13) "root_of" "World.root_of" 568 2 ["self","module"] .none M6 ++
 ff 884 1633 (mA 63 14) "real_class" "World.real_class" 573 2 ["self","module"] .none M6 ++
 ff 891 1641 (mA 63 15) "text" "World.text" 578 2 ["self","text"] .none M6
def ch6(P:Params):List Obj:=
 ff 898 1649 (mA 63 16) "list_of" "World.list_of" 581 2 ["self","items"] .none M6 ++
 ff 905 1657 (mA 63 17) "table_of" "World.table_of" 584 2 ["self","pairs"] .none M6 ++
 ff 912 1665 (mA 63 18) "key_of" "World.key_of" 587 2 ["self","key"] .none M6 ++
 ff 919 1673 (mA 63 19) "range_of" "World.range_of" 590 4 ["self","first","last","is_open"] .none M6 ++
 ff 926 1683 (mA 63 20) "proc" "World.proc" 593 10 ["self","params","body","env","self_value","nesting","home","site","is_lambda","definer","owner"] .none M6 ++
 ff 933 1700 (mA 63 21) "thing" "World.thing" 597 2 ["self","module","root","number"] .none M6 ++
 ff 940 1710 (mA 63 22) "is_error_class" "World.is_error_class" 623 2 ["self","module"] .none M6 ++
 ff 947 1718 (mA 63 23) "spread" "World.spread" 630 2 ["self","value"] .none M6 ++
 ff 954 1726 (mA 63 24) "numbers_of" "World.numbers_of" 633 2 ["self","value"] .none M6 ++
 ff 961 1734 (mA 63 25) "need_size" "World.need_size" 636 2 ["self","count"] .none M6 ++
 ff 968 1742 (mA 63 26) "sized_text" "World.sized_text" 639 2 ["self","text"] .none M6 ++
 ff 975 1750 (mA 63 27) "error" "World.error" 642 3 ["self","name","message"] .none M6 ++
 ff 982 1759 (mA 63 28) "fail" "World.fail" 645 3 ["self","name","message"] .none M6 ++
 ff 989 1768 (mA 63 29) "need_thawed" "World.need_thawed" 648 2 ["self","value"] .none M6 ++
 ff 996 1776 (mA 63 30) "set_field" "World.set_field" 651 4 ["self","value","name","item"] .none M6 ++
 ff 1003 1786 (mA 63 31) "describe" "World.describe" 654 2 ["self","value"] .none M6 ++
 ff 1010 1794 (mA 63 32) "own_constant" "World.own_constant" 657 3 ["self","module","name"] .none M6 ++
 ff 1017 1803 (mA 63 33) "find_constant" "World.find_constant" 660 3 ["self","nesting","name"] .none M6 ++
 ff 1024 1812 (mA 63 34) "constant" "World.constant" 663 3 ["self","nesting","name"] .none M6 ++
 ff 1031 1821 (mA 63 35) "find_in" "World.find_in" 666 3 ["self","module","name"] .none M6 ++
 ff 1038 1830 (mA 63 36) "constant_in" "World.constant_in" 669 3 ["self","module","name"] .none M6 ++
 ff 1045 1839 (mA 63 37) "set_constant" "World.set_constant" 672 4 ["self","module","name","value"] .none M6 ++
 fb P QN ["const_version","globals","here","is_ready","last_ident","last_number","made","main","most","natives","out","prelude","read","symbol_idents","taken","version"] [] ++
 fd 1059 1875 (dA 65) "_law_above" 675 0 [] .none M7
def ch7(P:Params):List Obj:=
 fd 1066 1881 (dA 66) "_law_within" 677 0 [] .none M7 ++
 fd 1073 1887 (dA 67) "_law_counted" 679 0 [] .none M7 ++
 fd 1080 1893 (dA 68) "_law_who" 681 0 [] .none M7 ++
 fd 1087 1899 (dA 69) "_law_heads" 683 0 [] .none M7 ++
 fd 1094 1905 (dA 70) "_law_senders" 685 0 [] .none M7 ++
 fd 1101 1911 (dA 71) "_law_well" 687 1 ["script","great","blend","cell"] .none M7 ++
 fd 1108 1921 (dA 72) "_law_draw" 694 2 ["well","many","digit","blend"] .none M7 ++
 fd 1115 1931 (dA 73) "_law_single" 702 2 ["well","books","above","spots","alone"] .none M7 ++
 [tp [],qt [],rI (fD (dA 74) "_law_mixed" .none .none .none .none none .none .none 0 0),cO [(S "_law_mixed" 1942),(S "_law_mixed" 1943),(Z 1944),(I 718),(I 2),(I 0),(I 0),(I 3),(R 1122),(.bool true),(I 181),(R 1123),.none,.none,.none,(R 1124),(I 1945),(I 718),(Z 1946)],qE (fD (dA 74) "_law_mixed" .none .none .none M7 none (R 1125) .none 3 0)] ++
 fd 1127 1948 (dA 75) "_law_entries" 726 3 ["well","books","most","spots","turn","spot","way","sight","owner","sort","at"] .none M7 ++
 fd 1134 1965 (dA 76) "_law_books" 739 2 ["well","most","name","native","books","is_shy"] .none M7 ++
 [tp [],qt [],rI (fD (dA 77) "_law_made" .none .none .none .none none .none .none 0 0),cO [(S "_law_made" 1977),(S "_law_made" 1978),(Z 1979),(I 750),(I 2),(I 0),(I 0),(I 3),(R 1141),(.bool true),(I 181),(R 1142),.none,.none,.none,(R 1143),(I 1980),(I 750),(Z 1981)],qE (fD (dA 77) "_law_made" .none .none .none M7 none (R 1144) .none 3 0)] ++
 fd 1146 1983 (dA 78) "_law_circle" 774 2 ["books","one","found","guest"] .none M7 ++
 [tp [],qt [],rI (fD (dA 79) "_law_line" .none .none .none .none none .none .none 0 0),cO [(S "_law_line" 1993),(S "_law_line" 1994),(Z 1995),(I 782),(I 2),(I 0),(I 0),(I 3),(R 1153),(.bool true),(I 181),(R 1154),.none,.none,.none,(R 1155),(I 1996),(I 782),(Z 1997)],qE (fD (dA 79) "_law_line" .none .none .none M7 none (R 1156) .none 3 0),tp [],qt [],rI (fD (dA 80) "_law_found" .none .none .none .none none .none .none 0 0),cO [(S "_law_found" 1999),(S "_law_found" 2000),(Z 2001),(I 792),(I 2),(I 0),(I 0),(I 3),(R 1158),(.bool true),(I 181),(R 1159),.none,.none,.none,(R 1160),(I 2002),(I 792),(Z 2003)],qE (fD (dA 80) "_law_found" .none .none .none M7 none (R 1161) .none 3 0),tp [],qt [],rI (fD (dA 81) "_law_agreed" .none .none .none .none none .none .none 0 0),cO [(S "_law_agreed" 2005),(S "_law_agreed" 2006),(Z 2007),(I 799),(I 5),(I 0),(I 0),(I 3),(R 1163),(.bool true),(I 181),(R 1164),.none,.none,.none,(R 1165),(I 2008),(I 799),(Z 2009)],qE (fD (dA 81) "_law_agreed" .none .none .none M7 none (R 1166) .none 3 0),tp [],qt [],rI (fD (dA 82) "law" .none .none .none .none none .none .none 0 0),cO [(S "law" 2011),(S "law" 2012),(Z 2013),(I 821),(I 1),(I 0),(I 0),(I 3),(R 1168),(.bool true),(I 181),(R 1169),.none,.none,.none,(R 1170),(I 2014),(I 821),(Z 2015)],qE (fD (dA 82) "law" .none .none .none M7 none (R 1171) .none 3 0)]
def objs(P:Params):List Obj:=ch0 P++ch1 P++ch2 P++ch3 P++ch4 P++ch5 P++ch6 P++ch7 P
def pre(P:Params):List Obj:=((((objs P).take 15).set 3 (gO P 8 (S "__main__" 164))).set 12 (qt []))
def IK(P:Params):List Obj:=((((objs P).take 15).set 3 (gO P 8 (S "__main__" 164))).set 12 (qt []))
def IL(P:Params):List Obj:=(((((objs P).take 43).set 3 (gO P 12 M0)).set 12 (tr 0 (tn.take 4))).set 38 (ty "Thing" [tO] [(R 38),tO] 37 [] none 200 208))
def IQ(P:Params):List Obj:=(((((objs P).take 141).set 3 (gO P 16 M0)).set 12 (tr 0 (tn.take 12))).set 38 (ty "Thing" [tO] [(R 38),tO] 37 [(R 60),(R 80),(R 118),(R 138)] none 200 208))
def IU(P:Params):List Obj:=((((objs P).take 229).set 3 (gO P 20 M0)).set 12 (tr 0 (tn.take 20)))
def IV(P:Params):List Obj:=((((objs P).take 336).set 3 (gO P 34 M1)).set 12 (tr 0 (tn.take 44)))
def IW(P:Params):List Obj:=((((objs P).take 456).set 3 (gO P 48 M2)).set 12 (tr 0 (tn.take 72)))
def IX(P:Params):List Obj:=((((objs P).take 527).set 3 (gO P 51 M4)).set 12 (tr 0 (tn.take 78)))
def IY(P:Params):List Obj:=((((objs P).take 660).set 3 (gO P 57 M5)).set 12 (tr 0 (tn.take 90)))
def IZ(P:Params):List Obj:=((((objs P).take 759).set 3 (gO P 58 M5)).set 12 (tr 0 (tn.take 92)))
def zP(P:Params):List Obj:=((((objs P).take 767).set 3 (gO P 60 M6)).set 12 (tr 0 (tn.take 94)))
def vW(P:Params):List Obj:=((((objs P).take 770).set 3 (gO P 61 M6)).set 12 (tr 0 (tn.take 94)))
def zQ(P:Params):List Obj:=((((objs P).take 778).set 3 (gO P 62 M6)).set 12 (tr 0 (tn.take 94)))
def Ja(P:Params):List Obj:=((((objs P).take 779).set 3 (gO P 63 M6)).set 12 (tr 0 (tn.take 94)))
def Jb(P:Params):List Obj:=((((objs P).take 1059).set 3 (gO P 64 M6)).set 12 (tr 0 (tn.take 96)))
def Jc(P:Params):List Obj:=((objs P).take 1173)
noncomputable def sp:List Obj->List Obj×List Obj
|[]=>([],[])
|a::r=>(a::(sp r).2,(sp r).1)
def bt:Nat->List Obj->BT
|0,_=>.nil
|_+1,[]=>.nil
|f+1,o::r=>.node o (bt f (sp r).1) (bt f (sp r).2)
noncomputable abbrev ann:Option Value:=some (.ref 6)
def env:PySem.Env:={ scope:=pw.main.scope,locals:=mainNs,globals:=mainNs,cells:=[],code:=.ref 13,frame:=some 14 }
def top:List Stmt:=behindTheImports pw
def cd:Code:=.body top env
noncomputable def bot:List Frame:=[topFrame ⟨0,0,0,0⟩]
def grp(a n:Nat):List Stmt:=(top.drop a).take n
theorem ae5(a n:Nat):grp a n++top.drop (a+n)=top.drop a:=by unfold grp;rw [<-List.drop_drop];exact ig _ _
def pD(l:List Obj)(n t:Nat)(os:OsState):SharedT:=⟨bt 20 l,n,{},#[],{},t,os⟩
theorem qu:@segRunT treeTable=@PySem.W.Fast.tw10110043849684766642 PySem.W.Fast.tw14364793385576792824:=by
 rw [<-PySem.W.Fast.te10110043849684766642,<-PySem.W.Fast.te14364793385576792824]
abbrev SG(c:Nat)(F G:Params->List Obj)(n t a k:Nat)(p:Pos)(m u:Nat)(q:Pos)(w:World):Prop:=∀os:OsState,segRunT treeTable pw w 11 ann 1 c (pD (F w.params) n t os) (piecesOf (grp a k) env cd p bot)=some (.next,pD (G w.params) m u os,cd,q)
theorem g0(w:World):SG 285 IK IL 15 187 0 5 ⟨0,0,0,0⟩ 43 235 ⟨7,0,15,25⟩ w:=λos=>by rw [qu];kernel_rfl
theorem g5(w:World):SG 1092 IL IQ 43 235 5 4 ⟨7,0,15,25⟩ 141 373 ⟨46,0,52,27⟩ w:=λos=>by rw [qu];kernel_rfl
theorem g9(w:World):SG 1059 IQ IU 141 373 9 4 ⟨46,0,52,27⟩ 229 521 ⟨80,0,97,40⟩ w:=λos=>by rw [qu];kernel_rfl
theorem g13(w:World):SG 826 IU IV 229 521 13 15 ⟨80,0,97,40⟩ 336 690 ⟨207,0,208,8⟩ w:=λos=>by rw [qu];kernel_rfl
theorem g28(w:World):SG 700 IV IW 336 690 28 15 ⟨207,0,208,8⟩ 456 878 ⟨281,0,297,16⟩ w:=λos=>by rw [qu];kernel_rfl
theorem g43(w:World):SG 626 IW IX 456 878 43 5 ⟨281,0,297,16⟩ 527 1008 ⟨345,0,345,8⟩ w:=λos=>by rw [qu];kernel_rfl
theorem g48(w:World):SG 1291 IX IY 527 1008 48 7 ⟨345,0,345,8⟩ 660 1204 ⟨392,0,401,24⟩ w:=λos=>by rw [qu];kernel_rfl
theorem g55(w:World):SG 589 IY IZ 660 1204 55 1 ⟨392,0,401,24⟩ 759 1334 ⟨402,0,445,17⟩ w:=λos=>by rw [qu];kernel_rfl
theorem g56(w:World):SG 66 IZ zP 759 1334 56 4 ⟨402,0,445,17⟩ 767 1354 ⟨457,0,457,7⟩ w:=λos=>by rw [qu];kernel_rfl
theorem ae6(w:World):SG 759 zP vW 767 1354 60 1 ⟨457,0,457,7⟩ 770 1471 ⟨458,0,458,8⟩ (w.withFollow "special-get-raises" false):=λos=>by rw [qu];kernel_rfl
theorem ae7(w:World):SG 759 zP vW 767 1354 60 1 ⟨457,0,457,7⟩ 770 1471 ⟨458,0,458,8⟩ (w.withFollow "special-get-raises" true):=λos=>by rw [qu];kernel_rfl
theorem g60(w:World):SG 759 zP vW 767 1354 60 1 ⟨457,0,457,7⟩ 770 1471 ⟨458,0,458,8⟩ w:=byRow2 "special-get-raises" (P:=SG 759 zP vW 767 1354 60 1 ⟨457,0,457,7⟩ 770 1471 ⟨458,0,458,8⟩) ae6 ae7 w
theorem ae8(w:World):SG 130 vW zQ 770 1471 61 1 ⟨458,0,458,8⟩ 778 1493 ⟨459,0,459,5⟩ (w.withFollow "special-get-raises" false):=λos=>by rw [qu];kernel_rfl
theorem ae9(w:World):SG 130 vW zQ 770 1471 61 1 ⟨458,0,458,8⟩ 778 1493 ⟨459,0,459,5⟩ (w.withFollow "special-get-raises" true):=λos=>by rw [qu];kernel_rfl
theorem g61(w:World):SG 130 vW zQ 770 1471 61 1 ⟨458,0,458,8⟩ 778 1493 ⟨459,0,459,5⟩ w:=byRow2 "special-get-raises" (P:=SG 130 vW zQ 770 1471 61 1 ⟨458,0,458,8⟩ 778 1493 ⟨459,0,459,5⟩) ae8 ae9 w
theorem g62(w:World):SG 16 zQ Ja 778 1493 62 1 ⟨459,0,459,5⟩ 779 1499 ⟨460,0,460,6⟩ w:=λos=>by rw [qu];kernel_rfl
theorem g63(w:World):SG 1456 Ja Jb 779 1499 63 1 ⟨460,0,460,6⟩ 1059 1873 ⟨461,0,673,17⟩ w:=λos=>by rw [qu];kernel_rfl
theorem g64(w:World):SG 536 Jb Jc 1059 1873 64 19 ⟨461,0,673,17⟩ 1173 2017 ⟨821,0,838,15⟩ w:=λos=>by rw [qu];kernel_rfl
end
section
variable{η:AH}{r n j fuel:Nat}{o':AO}{us:List Value}{fs:List (Str×PV)}{h':Heap}{prog:Program}{dx:Addr}{name nm:Str}{value slice elt kx vx tg:Expr}{A:Around}{ks:List (Option Expr)}{ts:List Expr}{names:List (Str×NameKind)}{nW:Tg}
set_option backward.match.sparseCases true
section
theorem xb{P:Prop}{a b:Bool}(h:(a && b)=true)(k:a=true->b=true->P):P:=by
 cases a
 ·exact xf h
 ·exact k rfl h
theorem xc{α:Type _}{c:Bool}{x:Option α}{y:α}{P:Prop}(h:cond c x none=some y)(k:c=true->x=some y->P):P:=by
 cases c
 ·exact xn h
 ·exact k rfl h
theorem xd{P:Prop}(c:Bool)(t:c=true->P)(f:c=false->P):P:=by
 cases c
 ·exact f rfl
 ·exact t rfl
theorem xo{α:Type _}{P:Prop}(o:Option α)(n:o=none->P)(s:∀a,o=some a->P):P:=by
 cases o with
|none=>exact n rfl
|some a=>exact s a rfl
inductive PV where
|none
|bool (b:Bool)
|int (i:Int)
|str (s:Str)
|tup (l:List PV)
|ref (r i:Nat)
|st (v:Value)
|fl (l:List PV)
|mU (a b:Int)
inductive AO where
|list (l:List PV)
|sd (l:List (Str×PV)) (v:Nat)
|sL (l:List (Int×PV))
|jE
|inst (c:Addr) (fs:List (Str×PV))
structure AH where
 old:List (List AO)
 cur:List AO
namespace AH
noncomputable def get(η:AH)(r i:Nat):Option AO:=if r=η.old.length then η.cur[i]? else (η.old[r]?).bind (·[i]?)
noncomputable def set(η:AH)(r i:Nat)(o:AO):AH:=if r=η.old.length then ⟨η.old,η.cur.set i o⟩ else ⟨η.old.modify r (·.set i o),η.cur⟩
noncomputable def add(η:AH)(o:AO):AH:=⟨η.old,η.cur++[o]⟩
noncomputable def reg(η:AH):Nat:=η.old.length
noncomputable def ju(η:AH):Nat:=η.cur.length
noncomputable def fresh(η:AH):AH:=⟨η.old++[η.cur],[]⟩
noncomputable def row(η:AH)(r:Nat):List AO:=if r=η.old.length then η.cur else (η.old[r]?).getD []
theorem xj(η:AH)(r i:Nat):η.get r i=(η.row r)[i]?:=by
 unfold get row
 split
 ·rfl
 ·cases η.old[r]?<;>rfl
theorem afa(i:Nat)(o:AO)(h:η.row r≠[])(r':Nat):(η.set r i o).row r'=if r'=r then (η.row r).set i o else η.row r':=by
 unfold row set at *
 by_cases e:r=η.old.length
 ·rw [if_pos e]
  by_cases q:r'=r
  ·rw [if_pos q,if_pos (q.trans e),if_pos e]
  ·rw [if_neg q]
   have q':r'≠η.old.length:=e▸q
   exact (if_neg q').trans (if_neg q').symm
 ·rw [if_neg e] at h ⊢
  dsimp only
  rw [iu,iw]
  by_cases q:r'=r
  ·rw [if_pos q,q,if_neg e,if_neg e]
   cases g:η.old[r]? with
  |none=>rw [g] at h;exact absurd rfl h
  |some l=>exact congrArg (λo=>Option.getD o []) (congrArg some (if_pos rfl))
  ·rw [if_neg q]
   cases η.old[r']? with
  |none=>rfl
  |some l=>exact ite_congr rfl (λJ=>rfl) λJ=>congrArg (λo=>Option.getD o []) (congrArg some (if_neg (cX q)))
theorem get_set{i:Nat}{o:AO}(h:η.get r i=some o)(r' i':Nat):(η.set r i o').get r' i'=if r'=r/\i'=i then some o' else η.get r' i':=by
 rw [xj] at h
 rw [xj,xj,afa i o' (λe=>by rw [e] at h;exact xn h)]
 by_cases e:r'=r
 ·rw [if_pos e,List.getElem?_set,e]
  by_cases q:i=i'
  ·rw [if_pos q,if_pos (cY.mp h).1,if_pos ⟨rfl,q.symm⟩]
  ·rw [if_neg q,if_neg λz=>q z.2.symm]
 ·rw [if_neg e,if_neg λz=>e z.1]
theorem afb(η:AH)(o:AO)(r:Nat):(η.add o).row r=if r=η.reg then η.cur++[o] else η.row r:=by
 unfold row add reg
 split<;>rfl
theorem xq(η:AH)(o:AO)(r i:Nat):(η.add o).get r i=if r=η.reg/\i=η.ju then some o else η.get r i:=by
 rw [xj,xj,afb]
 by_cases e:r=η.reg
 ·rw [if_pos e,e,show η.row η.reg=η.cur from if_pos rfl]
  rcases Nat.lt_trichotomy i η.ju with h|h|h
  ·rw [fV h,if_neg λz=>bI h z.2]
  ·rw [if_pos ⟨rfl,h⟩,h];exact iz
  ·rw [if_neg λz=>eN h z.2,cy (aD h),cy (by rw [aE];exact h)]
 ·rw [if_neg e,if_neg λz=>e z.1]
theorem Eu(η:AH):η.get η.reg η.ju=none:=by
 rw [xj]
 show (if η.reg=η.reg then η.cur else _)[η.ju]?=none
 rw [if_pos rfl]
 exact cy (ak _)
theorem BR(η:AH)(r i:Nat):η.fresh.get r i=η.get r i:=by
 rw [xj,xj]
 congr 1
 unfold row fresh
 dsimp only
 rw [aE]
 rcases Nat.lt_trichotomy r η.old.length with h|h|h
 ·rw [fV h,if_neg (bI h)];exact if_neg (bI (fX h))
 ·rw [if_pos h,h,iz];exact if_neg (bI (bG _))
 ·rw [if_neg (eN h),cy (aD h),cy (by rw [aE];exact h)]
  split<;>rfl
end AH
structure Em where
 fz:Addr->Option Obj
 ad:Nat->Nat->Bool->Option Addr
 ep:Nat->Nat->Nat->Option Nat
structure Em.Le(X Y:Em):Prop where
 fz:∀{a o},X.fz a=some o->Y.fz a=some o
 ad:∀{r i b a},X.ad r i b=some a->Y.ad r i b=some a
 ep:∀{r i v e},X.ep r i v=some e->Y.ep r i v=some e
theorem Em.Le.refl(X:Em):X.Le X:=⟨id,id,id⟩
theorem Em.Le.trans{X Y Z:Em}(h:X.Le Y)(k:Y.Le Z):X.Le Z:=⟨k.1∘h.1,k.2∘h.2,k.3∘h.3⟩
noncomputable def Ew:Value->Bool
|.ref a=>decide (a<1173)
|.type _=>true
|.builtin _=>true
|_=>false
def Jd(o:Obj)(i j:Int):Prop:=∃t u v:Nat,o={ cls:=.type "range",dict:=none,data:=.fields #[.int i t,.int j u,.int 1 v],slots:=#[] }
noncomputable abbrev tX(vs:List Value)(n:Nat):Obj:=⟨.type "tuple",none,.seq vs.toArray n,#[]⟩
noncomputable abbrev rJ(vs:List Value)(n:Nat):Obj:=⟨.type "list",none,.seq vs.toArray n,#[]⟩
noncomputable abbrev zR:Obj:=⟨.type "dict",none,.dict #[] 0,#[]⟩
noncomputable abbrev Je(c dx:Addr):Obj:=⟨.ref c,some dx,.plain,#[]⟩
mutual
def VR(X:Em)(v:Value):PV->Prop
|.none=>v=.none
|.bool b=>v=.bool b
|.int i=>∃t,v=.int i t
|.str x=>∃t,v=.str x t
|.tup l=>∃a vs n,v=.ref a/\X.fz a=some (tX vs n)/\jI X vs l
|.ref r i=>∃a,v=.ref a/\X.ad r i false=some a
|.st u=>v=u/\Ew u=true
|.fl l=>∃a o vs n,v=.ref a/\X.fz a=some o/\o.cls=.type "list"/\o.data=.seq vs.toArray n/\jI X vs l
|.mU i j=>∃a o,v=.ref a/\X.fz a=some o/\Jd o i j
def jI(X:Em)(vs:List Value):List PV->Prop
|[]=>vs=[]
|p::ps=>∃v us,vs=v::us/\VR X v p/\jI X us ps
end
section
variable{X Y:Em}{v:Value}{vs:List Value}{p q:PV}{ps qs:List PV}
theorem VR.none:VR X .none .none:=rfl
theorem VR.bool(b:Bool):VR X (.bool b) (.bool b):=rfl
theorem VR.int(i:Int)(t:Tok):VR X (.int i t) (.int i):=⟨t,rfl⟩
theorem VR.str(s:Str)(t:Tok):VR X (.str s t) (.str s):=⟨t,rfl⟩
theorem VR.ref{i:Nat}{a:Addr}(h:X.ad r i false=some a):VR X (.ref a) (.ref r i):=⟨a,rfl,h⟩
theorem VR.st(h:Ew v=true):VR X v (.st v):=⟨rfl,h⟩
theorem VR.tup{a:Addr}(h:X.fz a=some (tX vs n))(r:jI X vs ps):VR X (.ref a) (.tup ps):=⟨a,vs,n,rfl,h,r⟩
theorem VR.fl{a:Addr}{o:Obj}(h:X.fz a=some o)(c:o.cls=.type "list")(d:o.data=.seq vs.toArray n)(r:jI X vs ps):VR X (.ref a) (.fl ps):=⟨a,o,vs,n,rfl,h,c,d,r⟩
theorem VR.mU{a:Addr}{o:Obj}{i j:Int}(h:X.fz a=some o)(r:Jd o i j):VR X (.ref a) (.mU i j):=⟨a,o,rfl,h,r⟩
theorem jI.nil:jI X [] []:=rfl
theorem jI.cons(r:VR X v p)(rs:jI X vs ps):jI X (v::vs) (p::ps):=⟨v,vs,rfl,r,rs⟩
variable{P:Value->Prop}{R:List Value->Prop}
@[elab_as_elim] theorem vN(r:VR X v .none)(k:P .none):P v:=(show v=.none from r)▸k
@[elab_as_elim] theorem vB{b:Bool}(r:VR X v (.bool b))(k:P (.bool b)):P v:=(show v=.bool b from r)▸k
@[elab_as_elim] theorem vI{i:Int}(r:VR X v (.int i))(k:∀t,P (.int i t)):P v:=ay r λt e=>e▸k t
@[elab_as_elim] theorem vS{s:Str}(r:VR X v (.str s))(k:∀t,P (.str s t)):P v:=ay r λt e=>e▸k t
@[elab_as_elim] theorem vR{i:Nat}(h:VR X v (.ref r i))(k:∀a,X.ad r i false=some a->P (.ref a)):P v:=ay h λa h=>h.1▸k a h.2
@[elab_as_elim] theorem vT{u:Value}(h:VR X v (.st u))(k:Ew u=true->P u):P v:=h.1▸k h.2
@[elab_as_elim] theorem vU(h:VR X v (.tup ps))(k:∀a vs n,X.fz a=some (tX vs n)->jI X vs ps->P (.ref a)):P v:=ay h λa h=>h.elim λvs h=>h.elim λn h=>h.1▸k a vs n h.2.1 h.2.2
@[elab_as_elim] theorem vF(h:VR X v (.fl ps))(k:∀a o vs n,X.fz a=some o->o.cls=.type "list"->o.data=.seq vs.toArray n->jI X vs ps->P (.ref a)):P v:=ay h λa h=>h.elim λo h=>h.elim λvs h=>h.elim λn h=>h.1▸k a o vs n h.2.1 h.2.2.1 h.2.2.2.1 h.2.2.2.2
@[elab_as_elim] theorem vG{i j:Int}(h:VR X v (.mU i j))(k:∀a o,X.fz a=some o->Jd o i j->P (.ref a)):P v:=ay h λa h=>h.elim λo h=>h.1▸k a o h.2.1 h.2.2
@[elab_as_elim] theorem o7(h:jI X vs [])(k:R []):R vs:=(show vs=[] from h)▸k
@[elab_as_elim] theorem m8(h:jI X vs (p::ps))(k:∀v us,VR X v p->jI X us ps->R (v::us)):R vs:=ay h λv h=>h.elim λus h=>h.1▸k v us h.2.1 h.2.2
end
section
variable{X Y:Em}
mutual
theorem VR.mono(h:X.Le Y):∀{p:PV} {v:Value},VR X v p->VR Y v p
|.none,_,r=>r
|.bool _,_,r=>r
|.int _,_,r=>r
|.str _,_,r=>r
|.ref _ _,_,r=>vR r λJ e=>.ref (h.ad e)
|.st _,_,r=>r
|.tup _,_,r=>vU r λJ J J e q=>.tup (h.fz e) (q.mono h)
|.fl _,_,r=>vF r λJ J J J e c d q=>.fl (h.fz e) c d (q.mono h)
|.mU _ _,_,r=>vG r λJ J e q=>.mU (h.fz e) q
theorem jI.mono(h:X.Le Y):∀{p:List PV} {v:List Value},jI X v p->jI Y v p
|[],_,r=>r
|_::_,_,r=>m8 r λJ J a b=>.cons (a.mono h) (b.mono h)
end
theorem jI.length{ps:List PV}:∀{vs:List Value},jI X vs ps->vs.length=ps.length:=by
 induction ps with
|nil=>intro vs h;refine o7 h ?_;rfl
|cons _ _ ih=>intro vs h;refine m8 h λJ J J r=>?_;exact congrArg (·+1) (ih r)
theorem jI.get{ps:List PV}:∀{vs:List Value},jI X vs ps->∀{k:Nat} {x:PV},ps[k]?=some x->∃u,vs[k]?=some u/\VR X u x:=by
 induction ps with
|nil=>exact λJ J J h=>xn h
|cons p ps ih=>
  intro vs h k x e
  refine m8 h λv us r rs=>?_
  cases k with
 |zero=>exact ⟨v,rfl,ai e▸r⟩
 |succ k=>exact ih (k:=k) rs e
theorem jI.append{ps qs:List PV}:∀{vs:List Value},jI X vs ps->jI X us qs->jI X (vs++us) (ps++qs):=by
 induction ps with
|nil=>exact λh k=>o7 h k
|cons p ps ih=>exact λh k=>m8 h λJ J r rs=>.cons r (ih rs k)
def KR(X:Em){K:Type}(kvs:List (K×Value)):List (K×PV)->Prop
|[]=>kvs=[]
|(k,p)::ps=>∃v us,kvs=(k,v)::us/\VR X v p/\KR X us ps
variable{K:Type}{kvs:List (K×Value)}{l:List (K×PV)}
theorem KR.nil:KR X (K:=K) [] []:=rfl
theorem KR.cons{k:K}{v:Value}{p:PV}(r:VR X v p)(rs:KR X kvs l):KR X ((k,v)::kvs) ((k,p)::l):=⟨v,kvs,rfl,r,rs⟩
@[elab_as_elim] theorem BU{R:List (K×Value)->Prop}(h:KR X kvs [])(k:R []):R kvs:=(show kvs=[] from h)▸k
@[elab_as_elim] theorem vX{R:List (K×Value)->Prop}{k:K}{p:PV}(h:KR X kvs ((k,p)::l))(q:∀v us,VR X v p->KR X us l->R ((k,v)::us)):R kvs:=ay h λv h=>h.elim λus h=>h.1▸q v us h.2.1 h.2.2
theorem KR.mono(h:X.Le Y):∀{kvs:List (K×Value)},KR X kvs l->KR Y kvs l:=by
 induction l with
|nil=>exact λr=>r
|cons a l ih=>intro kvs r;refine vX r λJ J a b=>?_;exact .cons (a.mono h) (ih b)
def rK(h:Heap)(a:Addr)(m:Str->Option Value)(k:Nat):Prop:=∃o es ep,h.get? a=some o/\o.data=.dict es ep/\StrKeys es/\(∀name,nsFind es name=m name)/\es.size<=k
def NR(X:Em)(m:Str->Option Value)(fs:List (Str×PV)):Prop:=∀x,(fs.lookup x=none/\m x=none)\/∃p v,fs.lookup x=some p/\m x=some v/\VR X v p
theorem NR.mono(h:X.Le Y){m:Str->Option Value}(n:NR X m fs):NR Y m fs:=λx=>(n x).imp id λz=>z.elim λp z=>z.elim λv z=>⟨p,v,z.1,z.2.1,z.2.2.mono h⟩
def OR(w:World)(X:Em)(h:Heap)(a:Addr)(d:Option Addr)(ep:Nat->Option Nat):AO->Prop
|.list l=>∃vs n,h.get? a=some (rJ vs n)/\jI X vs l
|.sd l v=>∃kvs e,ep v=some e/\h.DictAt (strKind pw w) a kvs e/\KR X kvs l
|.sL l=>∃kvs,h.DictOf (intKind pw w) a kvs/\KR X kvs l
|.jE=>h.get? a=some zR
|.inst c fs=>∃dx m,d=some dx/\h.get? a=some (Je c dx)/\rK h dx m fs.length/\NR X m fs
end
end
section
def Em.lq(X:Em)(a:Addr):Prop:=(∃o,X.fz a=some o)\/∃r i b,X.ad r i b=some a
theorem yy{X:Em}{a:Addr}{o:Obj}(h:X.fz a=some o):X.lq a:=.inl ⟨o,h⟩
theorem rO{X:Em}{a:Addr}{i:Nat}{b:Bool}(h:X.ad r i b=some a):X.lq a:=.inr ⟨r,i,b,h⟩
theorem Em.Le.trk{X Y:Em}(le:X.Le Y){a:Addr}(t:X.lq a):Y.lq a:=t.elim (λh=>h.elim λJ h=>yy (le.fz h)) λh=>h.elim λJ h=>h.elim λJ h=>h.elim λJ h=>rO (le.ad h)
theorem afc{X:Em}{a:Addr}(h:¬ X.lq a):X.fz a=none:=xo (X.fz a) id λJ q=>absurd (yy q) h
structure Ext(X:Em)(s:Shared)(F:Addr->Prop)(Y:Em)(s':Shared):Prop where
 le:X.Le Y
 off:∀{a o},s.heap.get? a=some o->¬ X.lq a->¬ Y.lq a
 live:∀a o,s.heap.get? a=some o->¬ X.lq a->F a->∃o',s'.heap.get? a=some o'
 keep:∀a o,s.heap.get? a=some o->¬ X.lq a->¬ F a->s'.heap.get? a=some o
 gens:s'.gens=s.gens
 os:s'.os=s.os
abbrev no:Addr->Prop:=λJ=>False
section
variable{X Y Z:Em}{s s' Ex:Shared}{F G:Addr->Prop}{a:Addr}{o:Obj}
theorem Ext.grow(h:∀a o,s.heap.get? a=some o->s'.heap.get? a=some o)(g:s'.gens=s.gens)(q:s'.os=s.os):Ext X s F X s':=⟨.refl X,λJ n=>n,λa o e J J=>⟨o,h a o e⟩,λa o e J J=>h a o e,g,q⟩
theorem Ext.refl(X:Em)(s:Shared)(F:Addr->Prop):Ext X s F X s:=.grow (λJ J h=>h) rfl rfl
theorem Ext.alive(e:Ext X s F Y s')(h:s.heap.get? a=some o)(n:¬ X.lq a):∃o',s'.heap.get? a=some o':=by
 by_cases q:F a
 ·exact e.live a o h n q
 ·exact ⟨o,e.keep a o h n q⟩
theorem Ext.into(e:Ext X s F Y s')(f:Ext Y s' G Z Ex)(hg:∀a o,s.heap.get? a=some o->¬ X.lq a->G a->F a):Ext X s F Z Ex where
 le:=e.le.trans f.le
 off h n:=(e.alive h n).elim λJ h'=>f.off h' (e.off h n)
 live a o h n q:=(e.live a o h n q).elim λJ h'=>f.alive h' (e.off h n)
 keep a o h n m:=f.keep a o (e.keep a o h n m) (e.off h n) λq=>m (hg a o h n q)
 gens:=f.gens.trans e.gens
 os:=f.os.trans e.os
theorem Ext.trans(e:Ext X s F Y s')(f:Ext Y s' F Z Ex):Ext X s F Z Ex:=e.into f λJ J J J q=>q
theorem Ext.up(e:Ext X s no Y s'):Ext X s F Y s':=⟨e.le,e.off,λa o h n J=>e.alive h n,λa o h n J=>e.keep a o h n id,e.gens,e.os⟩
theorem Ext.tok(X:Em)(s:Shared)(F:Addr->Prop)(t:Nat):Ext X s F X { s with toks:=t }:=.grow (λJ J h=>h) rfl rfl
theorem Ext.push(X:Em)(s:Shared)(F:Addr->Prop)(o:Obj)(t:Nat):Ext X s F X { s with heap:=s.heap.push o,toks:=t }:=.grow (λJ J h=>bS o h) rfl rfl
theorem Ext.but{t:Nat}(e:Ext X s F Y s')(hc:s.heap.get? a=none)(hs:dI a s'.heap h'):Ext X s F Y { s' with heap:=h',toks:=t }:=
 have k:∀{b o o'},s.heap.get? b=some o->s'.heap.get? b=some o'->h'.get? b=some o':=λh h'=>hs _ _ (λz=>xm (h.symm.trans (z▸hc))) h'
 ⟨e.le,e.off,λa o h n q=>(e.live a o h n q).elim λo' h'=>⟨o',k h h'⟩,λa o h n q=>k h (e.keep a o h n q),e.gens,e.os⟩
end
structure Base(w:World)(X:Em)(η:AH)(h:Heap):Prop where
 fz:∀{a o},X.fz a=some o->h.get? a=some o
 st:∀{a o},(objs w.params)[a]?=some o->X.fz a=some o
 ob:∀{r i o},η.get r i=some o->∃a,X.ad r i false=some a/\OR w X h a (X.ad r i true) (X.ep r i) o
 tZ:∀{r i v e},X.ep r i v=some e->∃l u,η.get r i=some (.sd l u)/\v<=u
 dom:∀{r i b a},X.ad r i b=some a->(∃o,η.get r i=some o)/\∃o,h.get? a=some o
 nf:∀{r i b a},X.ad r i b=some a->X.fz a=none
 inj:∀{r i b r' i' b' a},X.ad r i b=some a->X.ad r' i' b'=some a->r'=r/\i'=i/\b'=b
theorem afd{K:Type}[DecidableEq K]{w:World}{knd:KeyKind prog w K}{h:Heap}{a:Addr}{kvs:List (K×Value)}(x:h.DictOf knd a kvs)(k:∀o,h.get? a=some o->h'.get? a=some o):h'.DictOf knd a kvs:=
 x.elim λo z=>z.elim λes z=>z.elim λep z=>⟨o,es,ep,k o z.1,z.2⟩
theorem afe{K:Type}[DecidableEq K]{w:World}{knd:KeyKind prog w K}{h:Heap}{a:Addr}{kvs:List (K×Value)}{e:Nat}(x:h.DictAt knd a kvs e)(k:∀o,h.get? a=some o->h'.get? a=some o):h'.DictAt knd a kvs e:=
 x.elim λo z=>z.elim λes z=>⟨o,es,k o z.1,z.2⟩
section
variable{w:World}{X Y:Em}{jt:AH}{h:Heap}{a c:Addr}{d d' e:Option Addr}{ep QO:Nat->Option Nat}{o:AO}{i:Nat}
theorem rK.move{m:Str->Option Value}{k:Nat}(x:rK h a m k)(q:∀o,h.get? a=some o->h'.get? a=some o):rK h' a m k:=x.elim λo z=>z.elim λes z=>z.elim λep z=>⟨o,es,ep,q o z.1,z.2⟩
theorem OR.move(x:OR w X h a d ep o)(le:X.Le Y)(k:∀{o},h.get? a=some o->h'.get? a=some o)(kd:∀{dx o},d=some dx->h.get? dx=some o->h'.get? dx=some o)(hd:∀{dx},d=some dx->d'=some dx)(he:∀{v e},ep v=some e->QO v=some e):OR w Y h' a d' QO o:=by
 induction o using AO.casesOn with
|list l=>exact ay x λvs x=>x.elim λn x=>⟨vs,n,k x.1,x.2.mono le⟩
|sd l v=>exact ay x λkvs x=>x.elim λe x=>⟨kvs,e,he x.1,afe x.2.1 λJ=>k,x.2.2.mono le⟩
|sL l=>exact ay x λkvs x=>⟨kvs,afd x.1 λJ=>k,x.2.mono le⟩
|jE=>exact k x
|inst c fs=>exact ay x λdx x=>x.elim λm x=>⟨dx,m,hd x.1,k x.2.1,x.2.2.1.move λJ=>kd x.1,x.2.2.2.mono le⟩
theorem Base.QR(B:Base w X η h)(t:X.lq a):∃o,h.get? a=some o:=t.elim (λh=>h.elim λo e=>⟨o,B.fz e⟩) λh=>h.elim λJ h=>h.elim λJ h=>h.elim λJ e=>(B.dom e).2
theorem Base.Ey(B:Base w X η h)(k:h.get? a=none):¬ X.lq a:=λt=>(B.QR t).elim λJ e=>xm (e.symm.trans k)
theorem Base.off(B:Base w X η h)(k:h.objs.size<=a):¬ X.lq a:=B.Ey (bJ k)
theorem Base.move(B:Base w X η h)(k:∀{a o},X.lq a->h.get? a=some o->h'.get? a=some o):Base w X η h' where
 fz e:=k (yy e) (B.fz e)
 st:=B.st
 ob e:=(B.ob e).elim λa x=>⟨a,x.1,x.2.move (.refl X) (k (rO x.1)) (λe=>k (rO e)) id id⟩
 tZ:=B.tZ
 dom e:=⟨(B.dom e).1,(B.dom e).2.elim λo g=>⟨o,k (rO e) g⟩⟩
 nf:=B.nf
 inj:=B.inj
theorem Base.push(B:Base w X η h)(o:Obj):Base w X η (h.push o):=B.move λJ e=>bS o e
theorem Base.same(B:Base w X η h)(hc:¬ X.lq c)(hs:bY c h h'):Base w X η h':=B.move λt e=>(hs.2 _ λq=>hc (q▸t)).trans e
theorem Base.extBut(B:Base w X η h)(hc:¬ X.lq c)(e:dI c h h'):Base w X η h':=B.move λt g=>e _ _ (λq=>hc (q▸t)) g
noncomputable def Em.BV(X:Em)(a:Addr)(o:Obj):Em:=⟨λb=>if b=a then some o else X.fz b,X.ad,X.ep⟩
theorem Em.Ez{o:Obj}(hn:¬ X.lq a):X.Le (X.BV a o):=⟨λ{b o'} e=>(if_neg λq:b=a=>hn (q▸yy e)).trans e,id,id⟩
theorem afg{o:Obj}:(X.BV a o).fz a=some o:=if_pos rfl
theorem Base.BV(B:Base w X η h){o:Obj}(hn:¬ X.lq a)(e:h.get? a=some o):Base w (X.BV a o) η h where
 fz {b o'} q:=by
  by_cases z:b=a
  ·exact z▸e.trans ((if_pos z).symm.trans q)
  ·exact B.fz ((if_neg z).symm.trans q)
 st q:=(Em.Ez hn).fz (B.st q)
 ob q:=(B.ob q).elim λc x=>⟨c,x.1,x.2.move (Em.Ez hn) id (λJ=>id) id id⟩
 tZ:=B.tZ
 dom:=B.dom
 nf {_ _ _ c} q:=(if_neg λz:c=a=>hn (z▸rO q)).trans (B.nf q)
 inj:=B.inj
theorem Base.step(B:Base w X η h)(le:X.Le Y)(Jf:Y.fz=X.fz)(hg:∀r' i',jt.get r' i'=if r'=r/\i'=i then some o' else η.get r' i')
  (k:∀{b o},X.lq b->(∀t,Y.ad r i t≠some b)->h.get? b=some o->h'.get? b=some o) (ha:Y.ad r i false=some a) (x:OR w Y h' a (Y.ad r i true) (Y.ep r i) o')
  (old:∀{r' i' t c},Y.ad r' i' t=some c->X.ad r' i' t=some c\/(r'=r/\i'=i/\¬ X.lq c/\(t=true->c≠a))) (al:∀{t c},Y.ad r i t=some c->∃o,h'.get? c=some o)
  (oe:∀{r' i' v c},Y.ep r' i' v=some c->X.ep r' i' v=some c\/(r'=r/\i'=i)) (ee:∀{v c},Y.ep r i v=some c->∃l u,o'=.sd l u/\v<=u):Base w Y jt h':=by
 have far:∀{r' i' t t' c},X.ad r' i' t=some c->¬ (r'=r/\i'=i)->Y.ad r i t'≠some c:=λhx ne hy=>(old hy).elim (λz=>ne ⟨(B.inj z hx).1,(B.inj z hx).2.1⟩) λz=>z.2.2.1 (rO hx)
 have Jg:jt.get r i=some o':=(hg r i).trans (if_pos ⟨rfl,rfl⟩)
 have Jh:∀{r' i'},¬ (r'=r/\i'=i)->jt.get r' i'=η.get r' i':=λne=>(hg _ _).trans (if_neg ne)
 refine ⟨λq=>?_,λq=>Jf▸B.st q,λ{r' i' o''} q=>?_,λ{r' i' v c} q=>?_,λ{r' i' t c} q=>?_,λq=>Jf▸(old q).elim B.nf λz=>afc z.2.2.1,λ{r1 i1 b r2 i2 b'} _ q q'=>?_⟩
 ·have q':=Jf▸q
  exact k (yy q') (λt e=>(old e).elim (λz=>xm (q'.symm.trans (B.nf z))) λz=>z.2.2.1 (yy q')) (B.fz q')
 ·by_cases z:r'=r/\i'=i
  ·have e:o'=o'':=ai (Jg.symm.trans (z.1▸z.2▸q))
   rw [<-e,z.1,z.2]
   exact ⟨a,ha,x⟩
  ·exact (B.ob ((Jh z).symm.trans q)).elim λc y=>⟨c,le.ad y.1,y.2.move le (k (rO y.1) λJ=>far y.1 z) (λe=>k (rO e) λJ=>far e z) le.ad le.ep⟩
 ·by_cases z:r'=r/\i'=i
  ·rw [z.1,z.2] at q ⊢
   exact (ee q).elim λl y=>y.elim λu y=>⟨l,u,y.1▸Jg,y.2⟩
  ·rw [Jh z]
   exact (oe q).elim B.tZ λy=>absurd y z
 ·by_cases z:r'=r/\i'=i
  ·rw [z.1,z.2] at q ⊢
   exact ⟨⟨o',Jg⟩,al q⟩
  ·rw [Jh z]
   refine (old q).elim (λy=>?_) λy=>absurd ⟨y.1,y.2.1⟩ z
   exact ⟨(B.dom y).1,(B.dom y).2.elim λo1 e1=>⟨o1,k (rO y) (λJ=>far y z) e1⟩⟩
 ·refine (old q).elim (λy=>(old q').elim (λy'=>B.inj y y') λy'=>absurd (rO y) y'.2.2.1) λy=>(old q').elim (λy'=>absurd (rO y') y.2.2.1) λy'=>⟨y'.1.trans y.1.symm,y'.2.1.trans y.2.1.symm,?_⟩
  rw [y.1,y.2.1] at q
  rw [y'.1,y'.2.1] at q'
  cases b
  ·cases b'
   ·rfl
   ·exact absurd (ai (q.symm.trans ha)) (y'.2.2.2 rfl)
  ·cases b'
   ·exact absurd (ai (q'.symm.trans ha)) (y.2.2.2 rfl)
   ·rfl
noncomputable def Em.put(X:Em)(r i:Nat)(a:Addr)(d e:Option Addr):Em:=⟨X.fz,λr' i' b=>if r'=r/\i'=i then cond b d (some a) else X.ad r' i' b,λr' i' v=>if r'=r/\i'=i/\v=0 then e else X.ep r' i' v⟩
noncomputable def Em.note(X:Em)(r i v:Nat)(e:Option Nat):Em:=⟨X.fz,X.ad,λr' i' v'=>if r'=r/\i'=i/\v'=v then e else X.ep r' i' v'⟩
theorem BX(b:Bool):(X.put r i a d e).ad r i b=cond b d (some a):=if_pos ⟨rfl,rfl⟩
theorem Base.afh(B:Base w X η h)(e:η.get r i=none)(b:Bool):X.ad r i b≠some a:=λq=>(B.dom q).1.elim λJ g=>xm (g.symm.trans e)
theorem Base.QT(B:Base w X η h)(e:η.get r i=none)(v c:Nat):X.ep r i v≠some c:=λq=>(B.tZ q).elim λJ z=>z.elim λJ z=>xm (z.1.symm.trans e)
theorem Base.zS(B:Base w X η h):X.Le (X.put η.reg η.ju a d e) where
 fz:=id
 ad {r i b c} q:=(if_neg λz:r=η.reg/\i=η.ju=>B.afh η.Eu b (z.1▸z.2▸q)).trans q
 ep {r i v c} q:=(if_neg λz:r=η.reg/\i=η.ju/\v=0=>B.QT η.Eu v c (z.1▸z.2.1▸q)).trans q
theorem Base.new(B:Base w X η h)(k:∀{b o},X.lq b->h.get? b=some o->h'.get? b=some o)(nw:∀{c},c=a\/d=some c->¬ X.lq c/\∃o,h'.get? c=some o)(da:d≠some a)(he:∀{c},e=some c->∃l u,o=.sd l u)
  (x:OR w (X.put η.reg η.ju a d e) h' a d (λv=>if v=0 then e else none) o):Base w (X.put η.reg η.ju a d e) (η.add o) h':=by
 have at_:∀{t c},(X.put η.reg η.ju a d e).ad η.reg η.ju t=some c->c=a/\t=false\/d=some c/\t=true:=λ{t c} q=>by
  rw [BX] at q
  cases t
  ·exact .inl ⟨(ai q).symm,rfl⟩
  ·exact .inr ⟨q,rfl⟩
 refine B.step (Y:=X.put η.reg η.ju a d e) (a:=a) B.zS rfl (AH.xq η o) (λt J=>k t) (BX false) ?_ (λ{r' i' t c} q=>?_) (λq=>(nw ((at_ q).imp And.left And.left)).2) (λ{r' i' v c} q=>?_) λ{v c} q=>?_
 ·rw [BX]
  refine x.move (.refl _) id (λJ=>id) id λ{v c} q=>?_
  by_cases z:v=0
  ·exact (if_pos ⟨rfl,rfl,z⟩).trans ((if_pos z).symm.trans q)
  ·exact xn ((if_neg z).symm.trans q)
 ·by_cases z:r'=η.reg/\i'=η.ju
  ·rw [z.1,z.2] at q
   refine .inr ⟨z.1,z.2,?_⟩
   rcases at_ q with y|y
   ·exact ⟨(nw (.inl y.1)).1,λt=>xf (y.2.symm.trans t)⟩
   ·exact ⟨(nw (.inr y.1)).1,λJ g=>da (g▸y.1)⟩
  ·exact .inl ((if_neg z).symm.trans q)
 ·by_cases z:r'=η.reg/\i'=η.ju
  ·exact .inr z
  ·exact .inl ((if_neg λy=>z ⟨y.1,y.2.1⟩).symm.trans q)
 ·by_cases z:v=0
  ·exact (he ((if_pos ⟨rfl,rfl,z⟩).symm.trans q)).elim λl y=>y.elim λu y=>⟨l,u,y,z▸bx u⟩
  ·exact absurd ((if_neg λy=>z y.2.2).symm.trans q) (B.QT η.Eu v c)
theorem Em.afi{v:Nat}{e:Option Nat}(hn:∀c,X.ep r i v≠some c):X.Le (X.note r i v e):=⟨id,id,λq=>(if_neg λz=>hn _ (z.1▸z.2.1▸z.2.2▸q)).trans q⟩
theorem Base.afj(B:Base w X η h):Base w X η.fresh h:=⟨B.fz,B.st,λe=>B.ob ((AH.BR ..).symm.trans e),λq=>(AH.BR ..).symm▸B.tZ q,λq=>(AH.BR ..).symm▸B.dom q,B.nf,B.inj⟩
end
inductive GE(w:World)(X:Em)(s:Shared)(η:AH)(p:PV)(v:Value)(s':Shared):Prop
|mk {Y:Em} (e:Ext X s no Y s') (b:Base w Y η s'.heap) (r:VR Y v p)
section
variable{w:World}{X Y:Em}{s s₁ s':Shared}{jt:AH}{p p':PV}{v:Value}{i:Nat}{a c:Addr}{d e:Option Addr}{o:AO}{t:Nat}
theorem GE.tok(B:Base w X η s.heap)(r:VR X v p):GE w X s η p v { s with toks:=t }:=⟨.tok ..,B,r⟩
theorem made(E:Ext X s no Y s₁)(B:Base w Y η s₁.heap)(nw:∀{c},c=a\/d=some c->s.heap.get? c=none/\¬ Y.lq c/\∃o,h'.get? c=some o)(da:d≠some a)(hs:∀{b o},¬ (b=a\/d=some b)->s₁.heap.get? b=some o->h'.get? b=some o)
  (he:∀{c},e=some c->∃l u,o=.sd l u) (x:OR w (Y.put η.reg η.ju a d e) h' a d (λv=>if v=0 then e else none) o):GE w X s (η.add o) (.ref η.reg η.ju) (.ref a) { s₁ with heap:=h',toks:=t }:=by
 refine ⟨⟨E.le.trans B.zS,λ{b o} h n q=>?_,λJ J J J q=>q.elim,λb o h n f=>hs (λz=>xm (h.symm.trans (nw z).1)) (E.keep b o h n f),E.gens,E.os⟩,B.new (λq h=>hs (λz=>(nw z).2.1 q) h) (λz=>(nw z).2) da he x,.ref (BX false)⟩
 rcases q with q|⟨r',i',b,q⟩
 ·exact E.off h n (.inl q)
 ·by_cases z:r'=η.reg/\i'=η.ju
  ·rw [z.1,z.2,BX] at q
   refine xm (h.symm.trans (nw ?_).1)
   cases b
   ·exact .inl (ai q).symm
   ·exact .inr q
  ·exact E.off h n (rO ((if_neg z).symm.trans q))
theorem frozen(B:Base w X η s.heap)(ob:Obj)(hf:ob.isFreed=false)(r:∀{Y:Em},X.Le Y->Y.fz s.heap.objs.size=some ob->VR Y (.ref s.heap.objs.size) p):GE w X s η p (.ref s.heap.objs.size) { s with heap:=s.heap.push ob,toks:=t }:=by
 have off:¬ X.lq s.heap.objs.size:=B.off (ak _)
 refine ⟨⟨Em.Ez off,λ{b o} h n q=>?_,λJ J J J q=>q.elim,λJ J h J J=>bS _ h,rfl,rfl⟩,(B.push ob).BV off (bK _ hf),r (Em.Ez off) afg⟩
 rcases q with ⟨o,q⟩|q
 ·exact n (yy ((if_neg λz:b=_=>aM _ (z▸cH h)).symm.trans q))
 ·exact n (.inr q)
theorem upd{k:Bool}(B:Base w X η s.heap)(g:η.get r i=some o)(ec:X.ad r i k=some c)(hs:bY c s.heap h')(al:∃o,h'.get? c=some o)(le:X.Le Y)(QW:Y.fz=X.fz)(zT:Y.ad=X.ad)
  (oe:∀{r' i' v c},Y.ep r' i' v=some c->X.ep r' i' v=some c\/(r'=r/\i'=i)) (ee:∀{v c},Y.ep r i v=some c->∃l u,o'=.sd l u/\v<=u) (ha:X.ad r i false=some a) (x:OR w Y h' a (X.ad r i true) (Y.ep r i) o') :
  Ext X s no Y { s with heap:=h',toks:=t }/\Base w Y (η.set r i o') h':=by
 have tY:∀{b},Y.lq b->X.lq b:=λq=>by
  unfold Em.lq at q ⊢
  rwa [QW,zT] at q
 refine ⟨⟨le,λJ n q=>n (tY q),λJ J J J q=>q.elim,λb o e n J=>(hs.2 b λq=>n (q▸rO ec)).trans e,rfl,rfl⟩,?_⟩
 refine B.step le QW (AH.get_set g) (λ{b o} _ n e=>(hs.2 b λq=>n k (by rw [q,zT];exact ec)).trans e) (zT▸ha) (zT▸x) (λq=>.inl (zT▸q)) (λ{t c'} q=>?_) oe ee
 by_cases z:c'=c
 ·exact z▸al
 ·exact (B.dom (zT▸q)).2.elim λo1 e=>⟨o1,(hs.2 c' z).trans e⟩
end
end
set_option backward.match.sparseCases false
noncomputable def EA(l:List Nat):Nat:=l.foldr (λc n=>c+1114112*n) 0
noncomputable def vY:List Nat->List Nat->Bool
|[],[]=>true
|a::x,b::y=>cond (aj a b) (vY x y) false
|_,_=>false
theorem QX{x:List Nat}:∀{y:List Nat},vY x y=true↔x=y:=by
 induction x with
|nil=>
  intro y
  cases y with
 |nil=>exact ⟨λJ=>rfl,λJ=>rfl⟩
 |cons _ _=>exact ⟨λh=>(nomatch h),λh=>(nomatch h)⟩
|cons a x ih=>
  intro y
  cases y with
 |nil=>exact ⟨λh=>(nomatch h),λh=>(nomatch h)⟩
 |cons b y=>
   refine xd (aj a b) (λh=>?_) λh=>?_
   ·rw [<-aP h]
    exact ⟨λq=>congrArg _ (ih.mp ((congrArg (λc=>cond c (vY x y) false) (bZ a)).symm.trans q)),λq=>(congrArg (λc=>cond c (vY x y) false) (bZ a)).trans (ih.mpr (List.cons.inj q).2)⟩
   ·exact ⟨λq=>xf ((congrArg (λc=>cond c (vY x y) false) h).symm.trans q),λq=>absurd (List.cons.inj q).1 (iA h)⟩
def sq(a b:Str):Bool:=cond (aj (EA a.cps.toList) (EA b.cps.toList)) (vY a.cps.toList b.cps.toList) false
theorem kj{a b:Str}:sq a b=true↔a=b:=by
 refine ⟨λh=>?_,λh=>?_⟩
 ·refine xd (aj (EA a.cps.toList) (EA b.cps.toList)) (λc=>?_) λc=>?_
  ·have h:=QX.mp ((congrArg (λc=>cond c (vY a.cps.toList b.cps.toList) false) c).symm.trans h)
   cases a;cases b
   exact congrArg bh (Array.toList_inj.mp h)
  ·exact xf ((congrArg (λc=>cond c (vY a.cps.toList b.cps.toList) false) c).symm.trans h)
 ·rw [h]
  exact (congrArg (λc=>cond c (vY b.cps.toList b.cps.toList) false) (bZ _)).trans (QX.mpr rfl)
def jv{α:Type}:List (Str×α)->Str->Option α
|[],_=>none
|(y,v)::r,x=>cond (sq y x) (some v) (jv r x)
def jN{α:Type}:List (Str×α)->Str->α->List (Str×α)
|[],x,v=>[(x,v)]
|(y,u)::r,x,v=>cond (sq y x) ((y,v)::r) ((y,u)::jN r x v)
noncomputable def rQ{α:Type}:List (Int×α)->Int->Option α
|[],_=>none
|(y,v)::r,x=>cond (decide (y=x)) (some v) (rQ r x)
noncomputable def vZ{α:Type}:List (Int×α)->Int->α->List (Int×α)
|[],x,v=>[(x,v)]
|(y,u)::r,x,v=>cond (decide (y=x)) ((y,v)::r) ((y,u)::vZ r x v)
def o8(l:List Str)(x:Str):Bool:=l.any (sq · x)
set_option genCtorIdx false in
inductive Fl where
|next|cont
|ret (v:PV)
noncomputable def lim:Nat:=65536
def kY(n:Nat):Bool:=bA n lim
set_option genCtorIdx false in
structure rR where
 st:Stmt
 dflt:List PV
set_option genCtorIdx false in
structure Tab where
 glob:List (Str×PV)
 pV:List (Addr×rR)
 oU:List (Addr×Addr)
 meths:List (Addr×List (Str×Addr))
 fields:List (Addr×List Str)
 bases:List (Addr×List Addr)
 t4:List (Addr×List (Str×PV))
noncomputable def jL{α:Type}:List (Addr×α)->Addr->Option α
|[],_=>none
|(y,v)::r,x=>cond (aj y x) (some v) (jL r x)
noncomputable def QY(c:Const):Option PV:=match c with
|.none=>some .none
|.bool b=>some (.bool b)
|.int i=>some (.int i)
|.str s=>some (.str s)
|_=>none
def kindS(sc:Scope)(x:Str):Option NameKind:=jv sc.names x
noncomputable def gI:PV->Option Int
|.int i=>some i
|_=>none
noncomputable def gS:PV->Option Str
|.str s=>some s
|_=>none
noncomputable def gT:PV->Option (List PV)
|.tup l=>some l
|_=>none
noncomputable def gR:PV->Option (Nat×Nat)
|.ref r i=>some (r,i)
|_=>none
noncomputable def gV:PV->Option Value
|.st v=>some v
|_=>none
noncomputable def AO.lst:AO->Option (List PV)
|.list l=>some l
|_=>none
noncomputable def AO.dct:AO->Option (List (Str×PV)×Nat)
|.sd l u=>some (l,u)
|_=>none
noncomputable def AO.ins:AO->Option (Addr×List (Str×PV))
|.inst c fs=>some (c,fs)
|_=>none
abbrev AH.lst(η:AH)(r i:Nat):Option (List PV):=(η.get r i).bind AO.lst
abbrev AH.dct(η:AH)(r i:Nat):Option (List (Str×PV)×Nat):=(η.get r i).bind AO.dct
abbrev AH.ins(η:AH)(r i:Nat):Option (Addr×List (Str×PV)):=(η.get r i).bind AO.ins
def oJ(v:PV)(η:AH):Option (List PV):=(gR v).bind λp=>η.lst p.1 p.2
def xr(v:PV)(η:AH):Option (List (Str×PV)):=(gR v).bind λp=>(η.dct p.1 p.2).map (·.1)
def clsOf(v:PV)(η:AH):Option Addr:=(gR v).bind λp=>(η.ins p.1 p.2).map (·.1)
noncomputable def one{α:Type}:List α->Option α
|[v]=>some v
|_=>none
noncomputable def two:List PV->Option (PV×PV)
|[v,u]=>some (v,u)
|_=>none
noncomputable def mJ:PV->Bool
|.none=>true
|_=>false
noncomputable def zU:PV->Bool
|.tup _=>true
|_=>false
def ng(v:PV)(η:AH):Option Bool:=match v with
|.none=>some false
|.bool b=>some b
|.int i=>some (!decide (i=0))
|.str s=>cond (kY s.length) (some (!aj s.length 0)) none
|.ref r i=>(η.lst r i).bind λl=>cond (kY l.length) (some (!l.isEmpty)) none
|_=>none
noncomputable def zV(f:PV->PV->Option Bool):List PV->List PV->Option Bool
|[],[]=>some true
|a::r,b::q=>(f a b).bind λe=>(zV f r q).map (e && ·)
|_,_=>none
def Ji(a b:PV):Option Bool:=(gS a).bind λx=>(gS b).map λy=>sq x y
abbrev zW:List PV->List PV->Option Bool:=zV Ji
def oV(a b:PV):Option Bool:=match a with
|.none=>match b with
 |.none=>some true
 |.str _=>some false
 |.bool _=>some false
 |_=>none
|.bool x=>match b with
 |.none=>some false
 |.bool y=>some (x == y)
 |_=>none
|.int x=>(gI b).map λy=>decide (x=y)
|.str x=>match b with
 |.none=>some false
 |.str y=>some (sq x y)
 |_=>none
|.tup x=>(gT b).bind (zW x)
|_=>none
abbrev BZ:List PV->List PV->Option Bool:=zV oV
noncomputable def sameAt(a b:PV):Bool:=match a with
|.ref r i=>match b with
 |.ref r' i'=>aj r r' && aj i i'
 |_=>false
|_=>false
def uR(a b:PV)(η:AH):Option Bool:=match gR a with
|some _=>(oJ a η).bind λl=>(oJ b η).bind λl'=>cond (aj l.length l'.length) (cond (sameAt a b) none (BZ l l')) (some false)
|none=>oV a b
def sM(a:PV):List PV->Option Bool
|[]=>some false
|b::r=>(oV b a).bind λe=>(sM a r).map (e || ·)
def sN(a b:PV)(η:AH):Option Bool:=match gT b with
|some l=>sM a l
|none=>(gR b).bind λp=>(η.get p.1 p.2).bind λo=>match o with
 |.list l=>sM a l
 |.sd l _=>(gS a).map λs=>(jv l s).isSome
 |.sL l=>(gI a).map λs=>(rQ l s).isSome
 |.jE=>cond ((gS a).isSome || (gI a).isSome) (some false) none
 |_=>none
def Jj(f:Int->Int->Bool)(a b:PV):Option Bool:=(gI a).bind λx=>(gI b).map (f x)
def nh(op:CmpOp)(a b:PV)(η:AH):Option Bool:=match op with
|.Is=>cond (mJ b) (some (mJ a)) none
|.IsNot=>cond (mJ b) (some (!mJ a)) none
|.Eq=>uR a b η
|.NotEq=>cond (zU a) none ((uR a b η).map (!·))
|.In=>sN a b η
|.NotIn=>(sN a b η).map (!·)
|.Lt=>Jj (λx y=>decide (x<y)) a b
|.Gt=>Jj (λx y=>decide (y<x)) a b
|.GtE=>Jj (λx y=>decide (y<=x)) a b
|_=>none
noncomputable def Jl(op:Operator)(x y:Int):Option Int:=match op with
|.Add=>some (x+y)
|.Mult=>cond (aY y.natAbs 1073741824) (some (x*y)) none
|.FloorDiv=>cond (decide (0<y) && aY y.natAbs 1073741824) (some (Int.fdiv x y)) none
|.Mod=>cond (decide (0<y)) (some (cI x y)) none
|.Pow=>cond (decide (x=10) && decide (0<=y) && decide (y<=200)) (some (x ^ y.toNat)) none
|_=>none
noncomputable def EB:Operator->Bool
|.Add=>true
|_=>false
noncomputable def QZ:Operator->Bool
|.Mult=>true
|_=>false
def t5(η:AH)(l:List PV):PV×AH:=(.ref η.reg η.ju,η.add (.list l))
def qZ(op:Operator)(a b:PV)(η:AH):Option (PV×AH):=match a with
|.int x=>(gI b).bind λy=>(Jl op x y).map λz=>(.int z,η)
|.str x=>(gS b).bind λy=>cond (EB op && kY (x.length+y.length)) (some (.str (x++y),η)) none
|.ref r i=>(η.lst r i).bind λl=>match gI b with
 |some k=>cond (QZ op && decide (0<=k) && decide (k<=3) && kY (3*l.length)) (some (t5 η (bq k.toNat l).flatten)) none
 |none=>(oJ b η).bind λl'=>cond (EB op && kY (l.length+l'.length)) (some (t5 η (l++l'))) none
|_=>none
noncomputable def oK:PV->Bool
|.st (.builtin _)=>false
|_=>true
def kE(T:Tab)(o:PV)(a:Str)(η:AH):Option PV:=(gR o).bind λp=>(η.ins p.1 p.2).bind λc=>(jL T.fields c.1).bind λns=>cond (o8 ns a) ((jv c.2 a).bind λp=>cond (oK p) (some p) none) none
def sO(T:Tab)(o:PV)(a:Str)(v:PV)(η:AH):Option AH:=(gR o).bind λp=>(η.ins p.1 p.2).bind λc=>(jL T.fields c.1).bind λns=>cond (o8 ns a && kY (c.2.length+1)) (some (η.set p.1 p.2 (.inst c.1 (jN c.2 a v)))) none
def yz(k:PV):Option Nat:=(gI k).bind λj=>cond (decide (0<=j) && decide (j<65536)) (some j.toNat) none
def jR(T:Tab)(o k:PV)(η:AH):Option PV:=match o with
|.tup l=>(yz k).bind λj=>l[j]?
|.str s=>(yz k).bind λj=>cond (aY j s.length) (some (.str (bh #[s.cps.getD j 0]))) none
|.st (.ref a)=>(gS k).bind λx=>(jL T.t4 a).bind λl=>jv l x
|.ref r i=>(η.get r i).bind λo=>match o with
 |.list l=>(yz k).bind λj=>l[j]?
 |.sd l _=>(gS k).bind λx=>jv l x
 |_=>none
|_=>none
def EC(o:AO)(k v:PV):Option AO:=match o with
|.sd l u=>(gS k).bind λx=>cond (kY (l.length+1)) (some (.sd (jN l x v) (u+1))) none
|.sL l=>(gI k).bind λx=>cond (kY (l.length+1)) (some (.sL (vZ l x v))) none
|.jE=>match k with
 |.str x=>some (.sd [(x,v)] 0)
 |.int x=>some (.sL [(x,v)])
 |_=>none
|_=>none
def nv(o k v:PV)(η:AH):Option AH:=(gR o).bind λp=>(η.get p.1 p.2).bind λo=>match o.lst with
|some l=>(yz k).bind λj=>cond (aY j l.length && kY l.length) (some (η.set p.1 p.2 (.list (l.set j v)))) none
|none=>(EC o k v).map (η.set p.1 p.2)
set_option genCtorIdx false in
inductive Src where
|lst (r i:Nat)
|vals (l:List PV)
|mU (a b:Int)
|keys (r i v n:Nat)
|nil (r i:Nat)
|rev (r i n:Nat)
def t6(v:PV)(η:AH):Option Src:=match v with
|.ref r i=>(η.get r i).bind λo=>match o with
 |.list _=>some (.lst r i)
 |.sd l u=>cond (kY l.length) (some (.keys r i u l.length)) none
 |.jE=>some (.nil r i)
 |_=>none
|.tup l=>some (.vals l)
|.mU a b=>cond (decide (0<=a) && decide (a<=b) && decide (b<=65536)) (some (.mU a b)) none
|_=>none
def Src.len(S:Src)(η:AH):Nat:=match S with
|.lst r i=>((η.lst r i).getD []).length
|.vals l=>l.length
|.mU a b=>(b - a).toNat
|.keys _ _ _ n=>n
|.nil _ _=>0
|.rev _ _ n=>n
def Src.at(S:Src)(k:Nat)(η:AH):Option (Option PV):=match S with
|.lst r i=>(η.lst r i).bind λl=>cond (kY l.length) (some l[k]?) none
|.vals l=>some l[k]?
|.mU a b=>some (cond (decide (a+k<b)) (some (.int (a+k))) none)
|.keys r i v n=>(η.dct r i).bind λd=>cond (aj d.2 v && aj d.1.length n) (some (d.1[k]?.map λp=>.str p.1)) none
|.nil r i=>(η.get r i).bind λo=>match o with
 |.jE=>some none
 |_=>none
|.rev r i n=>cond (aY k n) ((η.lst r i).bind λl=>cond (kY l.length) ((l[n - 1 - k]?).map some) none) (some none)
def t7(sc:Scope)(x:Str):Bool:=match kindS sc x with
|some .local=>true
|some .cell=>true
|_=>false
noncomputable def Q0:Str:=bh #[95,95,100,101,98,117,103,95,95]
noncomputable def Q5:Str:=bh #[95,95,99,108,97,115,115,100,105,99,116,95,95]
def Jm(sc:Scope):Bool:=sc.names.all λp=>!(sq p.1 Q0) && !(sq p.1 Q5)
def Q6(sc:Scope):Bool:=Jm sc && sc.names.all λp=>!decide (p.2=.free)
def ED(jG:Scope):Bool:=Jm jG && decide (jG.kind=.function) && jG.names.all λp=>!decide (p.2=.cell) && decide (kindS jG p.1=some p.2)
noncomputable def B6:Expr->Bool
|.Set _ _ _=>false
|_=>true
def xt(r i:Nat)(v:PV)(η:AH):Option AH:=(η.lst r i).bind λl=>cond (kY (l.length+1)) (some (η.set r i (.list (l++[v])))) none
noncomputable def yC:Option AO->Bool
|some (.list _)=>false
|_=>true
def yD(v:PV):List PV->Nat->Option Nat
|[],_=>none
|b::r,k=>(oV b v).bind λe=>cond e ((sM v r).map λJ=>k) (yD v r (k+1))
def xu(acc:List (Str×PV)):List (Str×PV)->List (Str×PV)
|[]=>acc
|(x,v)::r=>xu (jN acc x v) r
noncomputable def sP:Str:=bh #[97,112,112,101,110,100]
noncomputable def sQ:Str:=bh #[101,120,116,101,110,100]
noncomputable def sR:Str:=bh #[112,111,112]
noncomputable def t8:Str:=bh #[105,110,100,101,120]
noncomputable def pF:Str:=bh #[103,101,116]
noncomputable def t9:Str:=bh #[117,112,100,97,116,101]
def EE(r i:Nat)(v:PV):Bool:=!sameAt (.ref r i) v
def afk(r i:Nat)(l:List PV)(name:Str)(vs:List PV)(η:AH):Option (PV×AH):=
 cond (sq name sP) ((one vs).bind λv=>cond (kY (l.length+1)) (some (.none,η.set r i (.list (l++[v])))) none)
 (cond (sq name sQ) ((one vs).bind λv=>(oJ v η).bind λl'=>cond (kY (l.length+l'.length) && EE r i v) (some (.none,η.set r i (.list (l++l')))) none)
 (cond (sq name sR) (cond vs.isEmpty (l.getLast?.bind λv=>cond (kY l.length) (some (v,η.set r i (.list l.dropLast))) none) none)
 (cond (sq name t8) ((one vs).bind λv=>(yD v l 0).bind λk=>cond (kY l.length) (some (.int k,η)) none) none)))
def getM(l:List (Str×PV))(vs:List PV):Option PV:=match two vs with
|some p=>(gS p.1).map λx=>(jv l x).getD p.2
|none=>(one vs).bind λp=>(gS p).map λx=>(jv l x).getD .none
def afl(r i:Nat)(l:List (Str×PV))(u:Nat)(name:Str)(vs:List PV)(η:AH):Option (PV×AH):=
 cond (sq name pF) ((getM l vs).map (·,η))
 (cond (sq name t9) ((one vs).bind λv=>(xr v η).bind λl'=>cond (kY (l.length+l'.length) && EE r i v) (some (.none,η.set r i (.sd (xu l l') (u+1)))) none) none)
set_option genCtorIdx false in
inductive MS where
|lst (r i:Nat)
|dct (r i:Nat)
|stat (a:Addr)
|fn (f:Addr) (o:Option PV)
def pN(T:Tab)(ov:PV)(name:Str)(η:AH):Option MS:=match ov with
|.ref r i=>(η.get r i).bind λo=>match o with
 |.list _=>cond (sq name sP || sq name sQ || sq name sR || sq name t8) (some (.lst r i)) none
 |.sd _ _=>cond (sq name pF || sq name t9) (some (.dct r i)) none
 |.jE=>cond (sq name pF) (some (.dct r i)) none
 |.inst c fs=>(jL T.meths c).bind λms=>(jv ms name).bind λf=>cond (jv fs name).isNone (some (.fn f (some ov))) none
 |_=>none
|.st (.ref a)=>match jL T.t4 a with
 |some _=>cond (sq name pF) (some (.stat a)) none
 |none=>(jL T.meths a).bind λms=>(jv ms name).map λf=>.fn f none
|_=>none
def ua(T:Tab)(m:MS)(name:Str)(vs:List PV)(η:AH):Option (PV×AH):=match m with
|.lst r i=>(η.lst r i).bind λl=>afk r i l name vs η
|.dct r i=>(η.get r i).bind λo=>match o with
 |.sd l u=>afl r i l u name vs η
 |.jE=>cond (sq name pF) ((getM [] vs).map (·,η)) none
 |_=>none
|.stat a=>(jL T.t4 a).bind λl=>(getM l vs).map (·,η)
|.fn _ _=>none
def EF(o kv:PV)(η:AH):Option (PV×AH):=(yz kv).bind λk=>match o with
|.fl l=>cond (kY l.length) (some (t5 η (l.take k))) none
|o=>(oJ o η).bind λl=>cond (kY l.length) (some (t5 η (l.take k))) none
def Jo(o:PV)(η:AH):Option (PV×AH):=(oJ o η).bind λl=>cond (kY l.length) (some (t5 η l.reverse)) none
def rU(rv:Bool)(v:PV)(η:AH):Option Src:=cond rv ((gR v).bind λp=>(η.lst p.1 p.2).bind λl=>cond (kY l.length) (some (.rev p.1 p.2 l.length)) none) (t6 v η)
noncomputable def Q7:Expr->Bool
|.Constant c _ _=>match c with
 |.int i=>decide (i=1)
 |_=>false
|_=>false
noncomputable def afn:UnaryOp->Bool
|.USub=>true
|_=>false
def EG:Expr->Bool
|.UnaryOp op x _=>afn op && Q7 x
|_=>false
noncomputable def B7:Expr->Option Str
|.Name x _=>some x
|_=>none
noncomputable def isStar:Expr->Bool
|.Starred _ _=>true
|_=>false
def zX:Expr->Bool
|.Call g _ _ _=>match B7 g with
 |some id=>!(id == ("super":Str))
 |none=>true
|_=>true
def callee(T:Tab):PV->Bool
|.st (.ref a)=>(jL T.pV a).isSome || (jL T.oU a).isSome
|.st (.builtin _)=>true
|.st (.type _)=>true
|_=>false
noncomputable def isSlice:Expr->Bool
|.Slice _ _ _ _=>true
|_=>false
noncomputable def yE:Expr->Bool
|.ListComp _ _ _ _=>true
|.DictComp _ _ _ _ _=>true
|.SetComp _ _ _ _=>true
|_=>false
noncomputable def Jp:Expr->Bool
|.Tuple vs _ _=>!(vs.all (constantsAlone 8)) || vs.all (foldedForSure 8)
|_=>true
noncomputable def afo:Str:=bh #[114,101,118,101,114,115,101,100]
def Jq:Expr->Option (Str×Expr)
|.Call g as ks _=>(B7 g).bind λf=>(one as).bind λa=>cond (ks.isEmpty && sq f afo) (some (f,a)) none
|_=>none
noncomputable def B8:Expr->Option (List Expr)
|.Tuple ts _ _=>some ts
|_=>none
noncomputable def bindG{α:Type}(xs:List Str)(ds vs:List α):Option (List (Str×α)):=cond (bA vs.length xs.length && bA (xs.length - ds.length) vs.length) (some (xs.zip (vs++ds.drop (vs.length - (xs.length - ds.length))))) none
noncomputable abbrev Loc:=List (Str×PV)
abbrev Jr:List Str->List PV->List PV->Option Loc:=bindG
noncomputable def zY:PV->Option String
|.none=>some "NoneType"
|.bool _=>some "bool"
|.int _=>some "int"
|.str _=>some "str"
|.tup _=>some "tuple"
|_=>none
def yF(v:PV)(η:AH)(f:String->Option Bool)(g:Addr->Option Bool):Option Bool:=match zY v with
|some t=>f t
|none=>(clsOf v η).bind g
def Q8(v:PV)(t:PV)(T:Tab)(η:AH):Option Bool:=(gV t).bind λu=>match u with
|.type n=>cond (n == "bool" || n == "int" || n == "str") (yF v η (λt=>some (t == n || (t == "bool" && n == "int"))) λc=>(jL T.bases c).map λJ=>false) none
|.ref C=>cond (jL T.bases C).isSome (yF v η (λJ=>some false) λc=>(jL T.bases c).map λbs=>bs.contains C) none
|_=>none
def keyOf(p:PV):Option (Int×Int):=(gT p).bind λl=>(two l).bind λq=>(gS q.2).bind λJ=>(gT q.1).bind λl=>match l with
|[a,b,.bool _]=>(gI a).bind λx=>(gI b).map λy=>(x,y)
|_=>none
def B9(p:PV):List PV->Option (List PV)
|[]=>some [p]
|q::r=>(keyOf p).bind λa=>(keyOf q).bind λc=>cond (decide (a.1<c.1) || (decide (a.1=c.1) && decide (a.2<c.2))) (some (p::q::r)) (cond (decide (a.1=c.1) && decide (a.2=c.2)) none ((B9 p r).map (q::·)))
def xA:List PV->Option (List PV)
|[]=>some []
|p::r=>(xA r).bind (B9 p)
def Q9(v:PV)(η:AH):Option (PV×AH):=match v with
|.fl l=>cond (kY l.length) (some (.int l.length,η)) none
|v=>(oJ v η).bind λl=>cond (kY l.length) (some (.int l.length,η)) none
def Ra(v:PV)(η:AH):Option (PV×AH):=(gI v).map λi=>(.int i.natAbs,η)
def Rb(v:PV)(η:AH):Option (PV×AH):=(gI v).bind λk=>cond (decide (0<=k) && decide (k<=65536)) (some (.mU 0 k,η)) none
noncomputable def Rd(v:PV)(η:AH):Option (PV×AH):=match v with
|.bool b=>some (.int (cond b 1 0),η)
|_=>none
def Rf(v:PV)(η:AH):Option (PV×AH):=(oJ v η).bind λl=>cond (bA 2 l.length && bA l.length 60) ((xA l).map (t5 η)) none
def Rg(v:PV)(η:AH):Option (PV×AH):=(xr v η).bind λl=>cond (kY l.length) (some (.ref η.reg η.ju,η.add (.sd l 0))) none
def listE(v:PV)(η:AH):Option (PV×AH):=(xr v η).bind λl=>cond (kY l.length) (some (t5 η (l.map λp=>.str p.1))) none
noncomputable def Ca(v:Value)(n:String):Bool:=match v with
|.builtin m=>m == n
|_=>false
noncomputable def zZ(v:Value)(n:String):Bool:=match v with
|.type m=>m == n
|_=>false
def qF(T:Tab)(f:Value)(vs:List PV)(η:AH):Option (PV×AH):=
 cond (Ca f "isinstance") ((two vs).bind λp=>(Q8 p.1 p.2 T η).map λb=>(.bool b,η))
 ((one vs).bind λv=>cond (Ca f "len") (Q9 v η) (cond (Ca f "abs") (Ra v η) (cond (Ca f "sorted") (Rf v η)
  (cond (zZ f "range") (Rb v η) (cond (zZ f "int") (Rd v η) (cond (zZ f "dict") (Rg v η) (cond (zZ f "list") (listE v η) none)))))))
noncomputable def rV:Stmt->List Str
|.FunctionDef _ a _ _ _ _ _ _ _ _=>a.args.map (·.arg)
|_=>[]
noncomputable def bodyOf:Stmt->List Stmt
|.FunctionDef _ _ b _ _ _ _ _ _ _=>b
|_=>[]
noncomputable def uc:Stmt->Scope
|.FunctionDef _ _ _ _ _ _ sc _ _ _=>sc
|_=>⟨.module,[],false,false,[]⟩
section
theorem uS(a b:Str):sq a b=decide (a=b):=by
 by_cases h:a=b
 ·rw [decide_eq_true h];exact kj.mpr h
 ·rw [decide_eq_false h];exact xd (sq a b) (λq=>absurd (kj.mp q) h) id
theorem Js(a b:Str):sq a b=(a == b):=by
 rw [uS];exact (iB a b).symm
section
variable{K:Type}[DecidableEq K]
noncomputable def uT:List (K×PV)->K->Option PV
|[],_=>none
|(y,v)::r,x=>if y=x then some v else uT r x
noncomputable def yG:List (K×PV)->K->PV->List (K×PV)
|[],x,v=>[(x,v)]
|(y,u)::r,x,v=>if y=x then (y,v)::r else (y,u)::yG r x v
theorem ue{α:Type}{p:Prop}[Decidable p]{b:Bool}(h:b=decide p)(x y:α):cond b x y=if p then x else y:=by
 rw [h]
 by_cases q:p
 ·rw [if_pos q,decide_eq_true q];rfl
 ·rw [if_neg q,decide_eq_false q];rfl
theorem Jt(l:List (Str×PV))(x:Str):jv l x=uT l x:=by
 induction l with
|nil=>rfl
|cons p r ih=>exact (ue (uS p.1 x) _ _).trans (by rw [ih];rfl)
theorem afp(l:List (Int×PV))(x:Int):rQ l x=uT l x:=by
 induction l with
|nil=>rfl
|cons p r ih=>exact (ue rfl _ _).trans (by rw [ih];rfl)
theorem Rh(l:List (Str×PV))(x:Str)(p:PV):jN l x p=yG l x p:=by
 induction l with
|nil=>rfl
|cons q r ih=>exact (ue (uS q.1 x) _ _).trans (by rw [ih];rfl)
theorem afq(l:List (Int×PV))(x:Int)(p:PV):vZ l x p=yG l x p:=by
 induction l with
|nil=>rfl
|cons q r ih=>exact (ue rfl _ _).trans (by rw [ih];rfl)
theorem xB{α:Type}(l:List (Str×α))(x:Str):jv l x=l.lookup x:=by
 induction l with
|nil=>rfl
|cons p r ih=>
  refine (ue (uS p.1 x) _ _).trans ?_
  rw [ih,bB]
  by_cases h:p.1=x
  ·rw [if_pos h,beq_iff_eq.mpr h.symm]
  ·rw [if_neg h,beq_eq_false_iff_ne.mpr (cX h)]
theorem v5{α:Type}(l:List (Str×α))(x y:Str)(v:α):jv (jN l x v) y=if y=x then some v else jv l y:=by
 induction l with
|nil=>exact (ue (uS x y) _ _).trans (ite_congr (propext eq_comm) (λJ=>rfl) λJ=>rfl)
|cons p r ih=>
  show jv (cond (sq p.1 x) ((p.1,v)::r) (p::jN r x v)) y=if y=x then _ else cond (sq p.1 y) (some p.2) (jv r y)
  rw [ue (uS p.1 x),ue (uS p.1 y)]
  by_cases h:p.1=x
  ·rw [if_pos h]
   refine (ue (uS p.1 y) _ _).trans ?_
   by_cases q:y=x
   ·rw [if_pos q,if_pos (h.trans q.symm)]
   ·rw [if_neg q,if_neg (λz=>q (z.symm.trans h)),if_neg (λz=>q (z.symm.trans h))]
  ·rw [if_neg h]
   refine (ue (uS p.1 y) _ _).trans ?_
   by_cases q:p.1=y
   ·rw [if_pos q,if_pos q,if_neg λz=>h (q.trans z)]
   ·rw [if_neg q,if_neg q,ih]
theorem uf{α:Type}{x:Str}{k:α}{l:List (Str×α)}(h:jv l x=some k):(x,k)∈l:=by
 induction l with
|nil=>exact xn h
|cons p r ih=>
  refine xd (sq p.1 x) (λq=>?_) λq=>?_
  ·rw [<-kj.mp q,<-ai ((congrArg (λc=>cond c (some p.2) (jv r x)) q).symm.trans h)]
   exact bL ..
  ·exact bu _ (ih ((congrArg (λc=>cond c (some p.2) (jv r x)) q).symm.trans h))
variable{X:Em}{kvs:List (K×Value)}{l:List (K×PV)}{k:K}
theorem Ju(r:KR X kvs l):(uT l k=none/\valueAt kvs k=none)\/∃p v,uT l k=some p/\valueAt kvs k=some v/\VR X v p:=by
 induction l generalizing kvs with
|nil=>exact BU r (.inl ⟨rfl,rfl⟩)
|cons a l ih=>
  refine vX r λv us rv rs=>?_
  unfold valueAt
  by_cases h:a.1=k
  ·rw [List.find?_cons_of_pos (by simpa using h)]
   exact .inr ⟨a.2,v,if_pos h,rfl,rv⟩
  ·rw [List.find?_cons_of_neg (by simpa using h),show uT (a::l) k=uT l k from if_neg h]
   exact ih rs
theorem afr(r:KR X kvs l):(valueAt kvs k).isSome=(uT l k).isSome:=by
 rcases Ju (k:=k) r with z|⟨p,v,a,b,_⟩
 ·rw [z.1,z.2];rfl
 ·rw [a,b];rfl
theorem afs(r:KR X kvs l){p:PV}(h:uT l k=some p):∃v,valueAt kvs k=some v/\VR X v p:=by
 rcases Ju (k:=k) r with z|⟨q,v,a,b,c⟩
 ·exact xm (h.symm.trans z.1)
 ·exact ⟨v,b,ai (a.symm.trans h)▸c⟩
theorem ug(r:KR X kvs l):kvs.length=l.length:=by
 induction l generalizing kvs with
|nil=>exact BU r rfl
|cons a l ih=>exact vX r λJ J J rs=>congrArg (·+1) (ih rs)
theorem aft(r:KR X kvs l){j:Nat}{p:K×PV}(h:l[j]?=some p):∃v,kvs[j]?=some (p.1,v):=by
 induction l generalizing kvs j with
|nil=>exact xn h
|cons a l ih=>
  refine vX r λv us J rs=>?_
  cases j with
 |zero=>exact ⟨v,by rw [<-ai h];rfl⟩
 |succ j=>exact ih rs h
theorem Jv{u:Value}{p:PV}(U:VR X u p)(r:KR X kvs l)(nd:(kvs.map (·.1)).Nodup):KR X (stored kvs k u) (yG l k p):=by
 induction l generalizing kvs with
|nil=>exact BU r (.cons U .nil)
|cons a l ih=>
  revert nd
  refine vX r λv us rv rs nd=>?_
  rw [bT,bw] at nd
  unfold stored
  by_cases h:a.1=k
  ·rw [if_pos (by simp [h]),bT,if_pos h,show yG (a::l) k p=(a.1,p)::l from if_pos h,show (us.map λkv=>if kv.1=k then (kv.1,u) else kv)=us from (List.map_congr_left λkv hk=>if_neg λe=>nd.1 (aQ.mpr ⟨kv,hk,e.trans h.symm⟩)).trans (List.map_id us)]
   exact .cons U rs
  ·rw [show yG (a::l) k p=a::yG l k p from if_neg h]
   have:(if ((a.1,v)::us).any (λkv=>decide (kv.1=k)) then ((a.1,v)::us).map (λkv=>if kv.1=k then (kv.1,u) else kv) else ((a.1,v)::us)++[(k,u)])=(a.1,v)::stored us k u:=by
    unfold stored
    rw [List.any_cons,decide_eq_false h,Bool.false_or,bT,if_neg h]
    split<;>rfl
   rw [this]
   exact .cons rv (ih rs nd.2)
end
theorem qH(h:kY n=true):n<=65536:=b5 h
theorem uU{a b:Nat}(h:aY a b=true):a<b:=b5 h
theorem objs_size(P:Params):(objs P).length=1173:=by kernel_rfl
section
variable{w:World}{X Y:Em}{jt:AH}{s s₁ s':Shared}{E:Value->Shared->Prop}{i:Nat}{v:Value}
theorem Base.afu(B:Base w X η s.heap){b:Bool}{a:Addr}(h:X.ad r i b=some a):1173<=a:=dH λq=>xm ((B.st (aR (by rw [objs_size];exact q))).symm.trans (B.nf h))
theorem Base.v7(B:Base w X η s.heap){b:Bool}{a:Addr}(h:X.ad r i b=some a):(a == sysModules)=false:=beq_eq_false_iff_ne.mpr λe=>absurd (B.afu h) (by rw [e];decide)
theorem yH{K:Type}[DecidableEq K]{knd:KeyKind pw w K}{h:Heap}{a:Addr}(e:h.get? a=some ⟨.type "dict",none,.dict #[] n,#[]⟩):h.DictAt knd a [] n:=
 ⟨_,#[],e,⟨rfl,rfl,rfl⟩,rfl,λJ he=>by simp at he,Pairs.nil,dJ⟩
@[elab_as_elim] theorem Cd{P:Value->Prop}{o:AO}(B:Base w X η s.heap)(rv:VR X v (.ref r i))(g:η.get r i=some o)(k:∀a,X.ad r i false=some a->OR w X s.heap a (X.ad r i true) (X.ep r i) o->P (.ref a)):P v:=
 vR rv λa ea=>(B.ob g).elim λb x=>k a ea (ai (x.1.symm.trans ea)▸x.2)
@[elab_as_elim] theorem uV{P:Value->Prop}{l:List PV}(B:Base w X η s.heap)(rv:VR X v (.ref r i))(g:η.get r i=some (.list l))(k:∀a vs n,X.ad r i false=some a->s.heap.get? a=some (rJ vs n)->jI X vs l->P (.ref a)):P v:=
 Cd B rv g λa ea x=>ay x λvs x=>x.elim λn x=>k a vs n ea x.1 x.2
@[elab_as_elim] theorem yI{P:Value->Prop}{l:List (Str×PV)}{u:Nat}(B:Base w X η s.heap)(rv:VR X v (.ref r i))(g:η.get r i=some (.sd l u))(k:∀a kvs e,X.ad r i false=some a->X.ep r i u=some e->s.heap.DictAt (strKind pw w) a kvs e->KR X kvs l->P (.ref a)):P v:=
 Cd B rv g λa ea x=>ay x λkvs x=>x.elim λe x=>k a kvs e ea x.1 x.2.1 x.2.2
@[elab_as_elim] theorem idE{P:Value->Prop}{l:List (Int×PV)}(B:Base w X η s.heap)(rv:VR X v (.ref r i))(g:η.get r i=some (.sL l))(k:∀a kvs,X.ad r i false=some a->s.heap.DictOf (intKind pw w) a kvs->KR X kvs l->P (.ref a)):P v:=
 Cd B rv g λa ea x=>ay x λkvs x=>k a kvs ea x.1 x.2
@[elab_as_elim] theorem Ce{P:Value->Prop}(B:Base w X η s.heap)(rv:VR X v (.ref r i))(g:η.get r i=some .jE)(k:∀a,X.ad r i false=some a->s.heap.get? a=some zR->P (.ref a)):P v:=Cd B rv g λa ea x=>k a ea x
theorem oW{h:Heap}{a:Addr}{vs:List Value}(e:h.get? a=some (rJ vs n)):h.IsList a vs.toArray:=⟨_,e,rfl,n,rfl⟩
theorem v8{h:Heap}{a:Addr}{vs:List Value}(e:h.get? a=some (tX vs n)):h.IsTuple a vs.toArray:=⟨_,e,rfl,n,rfl⟩
theorem Ri{o:AO}{e:Option Nat}{ob:Obj}{t:Nat}(B:Base w X η s.heap)(hf:ob.isFreed=false)(he:∀{c},e=some c->∃l u,o=.sd l u)(x:∀{Y:Em},X.Le Y->OR w Y (s.heap.push ob) s.heap.objs.size none (λv=>if v=0 then e else none) o):GE w X s (η.add o) (.ref η.reg η.ju) (.ref s.heap.objs.size) { s with heap:=s.heap.push ob,toks:=t }:=
 made (s₁:=s) (d:=none) (.refl ..) B (λ{c} z=>z.elim (λz=>z▸⟨bJ (ak _),B.off (ak _),ob,bK _ hf⟩) xn) (λz=>xn z) (λJ h=>bS _ h) he (x B.zS)
theorem Cg(B:Base w X η s.heap){vs:List Value}{l:List PV}{t:Nat}(r:jI X vs l):GE w X s (η.add (.list l)) (.ref η.reg η.ju) (.ref s.heap.objs.size) { s with heap:=s.heap.push (rJ vs n),toks:=t }:=
 Ri (e:=none) B rfl xn λle=>⟨vs,n,bK _ rfl,r.mono le⟩
theorem Rj(B:Base w X η s.heap){t:Nat}:GE w X s (η.add .jE) (.ref η.reg η.ju) (.ref s.heap.objs.size) { s with heap:=s.heap.push zR,toks:=t }:=
 Ri (e:=none) B rfl xn λJ=>bK _ rfl
theorem afv(B:Base w X η s.heap){vs:List Value}{l:List PV}{t:Nat}(r:jI X vs l):GE w X s η (.tup l) (.ref s.heap.objs.size) { s with heap:=s.heap.push (tX vs n),toks:=t }:=
 frozen B _ rfl λle e=>.tup e (r.mono le)
theorem jz{α β:Type _}{P:Prop}{o:Option α}{f:α->Option β}{r:β}(h:o.bind f=some r)(k:∀a,o=some a->f a=some r->P):P:=(iC.mp h).elim λa z=>k a z.1 z.2
theorem jH{α β:Type _}{P:Prop}{o:Option α}{f:α->β}{r:β}(h:o.map f=some r)(k:∀a,o=some a->f a=r->P):P:=(eV.mp h).elim λa z=>k a z.1 z.2
variable{p:PV}{l:List PV}
theorem v9{i:Int}(h:gI p=some i):p=.int i:=by
 cases p<;>first|exact xn h|exact congrArg _ (ai h)
theorem wc{x:Str}(h:gS p=some x):p=.str x:=by
 cases p<;>first|exact xn h|exact congrArg _ (ai h)
theorem Ch(h:gT p=some l):p=.tup l:=by
 cases p<;>first|exact xn h|exact congrArg _ (ai h)
theorem uW{a:Nat×Nat}(h:gR p=some a):p=.ref a.1 a.2:=by
 cases p<;>first|exact xn h|exact congrArg (λa:Nat×Nat=>PV.ref a.1 a.2) (ai h)
theorem wg(h:η.lst r i=some l):η.get r i=some (.list l):=jz h λo g h=>by
 cases o<;>first|exact xn h|exact ai h▸g
theorem EH{d:List (Str×PV)×Nat}(h:η.dct r i=some d):η.get r i=some (.sd d.1 d.2):=jz h λo g h=>by
 cases o<;>first|exact xn h|exact ai h▸g
theorem EI{d:Addr×List (Str×PV)}(h:η.ins r i=some d):η.get r i=some (.inst d.1 d.2):=jz h λo g h=>by
 cases o<;>first|exact xn h|exact ai h▸g
@[elab_as_elim] theorem uh{P:Value->Prop}{j:Int}(h:gI p=some j)(r:VR X v p)(k:∀t,P (.int j t)):P v:=vI (P:=P) (v9 h▸r) k
@[elab_as_elim] theorem EJ{P:Value->Prop}{x:Str}(h:gS p=some x)(r:VR X v p)(k:∀t,P (.str x t)):P v:=vS (P:=P) (wc h▸r) k
@[elab_as_elim] theorem xC{P:Value->Prop}(B:Base w X η s.heap)(h:oJ p η=some l)(rv:VR X v p)(k:∀a vs n,s.heap.get? a=some (rJ vs n)->jI X vs l->P (.ref a)):P v:=jz h λq e g=>uV (P:=P) B (uW e▸rv) (wg g) λa vs n J=>k a vs n
theorem xD{α:Type}{vs:List α}{p:α}(h:one vs=some p):vs=[p]:=by
 cases vs with
|nil=>exact xn h
|cons a vs=>cases vs with
 |nil=>exact congrArg (·::[]) (ai h)
 |cons _ _=>exact xn h
theorem Rk{vs:List PV}{q:PV×PV}(h:two vs=some q):vs=[q.1,q.2]:=by
 cases vs with
|nil=>exact xn h
|cons a vs=>cases vs with
 |nil=>exact xn h
 |cons b vs=>cases vs with
  |nil=>exact congrArg (λq:PV×PV=>[q.1,q.2]) (ai h)
  |cons _ _=>exact xn h
@[elab_as_elim] theorem Jw{P:List Value->Prop}{vs:List Value}(h:jI X vs [p])(k:∀v,VR X v p->P [v]):P vs:=m8 h λv J r rs=>o7 rs (k v r)
@[elab_as_elim] theorem vs2{P:List Value->Prop}{vs:List Value}{q:PV}(h:jI X vs [p,q])(k:∀v u,VR X v p->VR X u q->P [v,u]):P vs:=m8 h λv J r rs=>Jw rs λu=>k v u r
theorem afw{P:PV->Bool->Prop}{b:Bool}(h:ng p η=some b)(n:P .none false)(bb:∀b,P (.bool b) b)(ii:∀i,P (.int i) (i != 0))(ss:∀x,kY x.length=true->P (.str x) ((x.length:Int) != 0))(ll:∀r i l,η.get r i=some (.list l)->kY l.length=true->P (.ref r i) (!l.isEmpty)):P p b:=by
 induction p using PV.casesOn with
|none=>exact ai h▸n
|bool c=>exact ai h▸bb c
|int i=>exact ai h▸ii i
|str x=>
  have e:((x.length:Int) != 0)=!aj x.length 0:=by cases x.length<;>rfl
  exact xc h λc h=>ai h▸e▸ss x c
|ref r i=>exact jz h λl g h=>xc h λc h=>ai h▸ll r i l (wg g) c
|_=>exact xn h
theorem empty_eq{vs:List Value}(rs:jI X vs l):vs.toArray.isEmpty=l.isEmpty:=by
 cases l with
|nil=>exact o7 rs rfl
|cons _ _=>exact m8 rs λJ J J J=>rfl
theorem Jx{b:Bool}{Q:Bool->Shared->Prop}(h:ng p η=some b)(B:Base w X η s.heap)(rv:VR X v p)(k:∀t,Q b { s with toks:=t }):wpAny (model pw w) A (truthy v) Q E s:=by
 refine afw (P:=λp b=>VR X v p->(∀t,Q b { s with toks:=t })->wpAny (model pw w) A (truthy v) Q E s) h ?_ ?_ ?_ ?_ ?_ rv k
 ·exact λrv k=>vN rv λJ J J=>k _
 ·exact λc rv k=>vB rv (wpAny_truthy_bool (k _))
 ·exact λi rv k=>vI rv λt=>PyProof.Rows.truthy_int (k _)
 ·exact λx c rv k=>vS rv λt=>PySem.P.truthy_str (λh=>by have:=qH c;omega) (k _)
 ·exact λr i l g c rv k=>uV B rv g λa vs n ea e rs=>wpAny_truthy_list (oW e) (by have:=qH c;have:=rs.length;rw [bM];omega) (empty_eq rs▸k _)
end
end
section
open PySem.SeqAt
theorem Rl{f:PV->PV->Option Bool}{P:List PV->List PV->Bool->Prop}(n:P [] [] true)(c:∀a b e r q t,f a b=some e->zV f r q=some t->P r q t->P (a::r) (b::q) (e && t)){p:List PV}:∀{q:List PV} {b:Bool},zV f p q=some b->P p q b:=by
 induction p with
|nil=>
  intro q b h
  cases q with
 |nil=>exact ai h▸n
 |cons _ _=>exact xn h
|cons a r ih=>
  intro q b h
  cases q with
 |nil=>exact xn h
 |cons y q=>exact (iC.mp h).elim λe z=>(eV.mp z.2).elim λt y=>y.2▸c _ _ _ _ _ _ z.1 y.1 (ih y.1)
section
variable{w:World}{X:Em}{jt:AH}{s s':Shared}{v u:Value}{p q a:PV}{b c:Bool}{vs:List Value}{ps qs:List PV}
theorem Rm{f:PV->PV->Option Bool}(hf:∀{a c e v u},f a c=some e->VR X v a->VR X u c->EqAt A s v u e)(h:zV f ps qs=some b):∀{vs us:List Value},jI X vs ps->jI X us qs->vs.length=us.length/\
  ∃e:Nat->Bool,(∀j (h1:j<vs.length) (h2:j<us.length),EqAt A s vs[j] us[j] (e j))/\(aX vs.length).all e=b:=by
 refine Rl (P:=λps qs b=>∀{vs us:List Value},jI X vs ps->jI X us qs->vs.length=us.length/\∃e:Nat->Bool,(∀j (h1:j<vs.length) (h2:j<us.length),EqAt A s vs[j] us[j] (e j))/\(aX vs.length).all e=b) ?_ (λx y e r q t h J ih vs us rs ts=>?_) h
 ·exact λrs ts=>o7 rs (o7 ts ⟨rfl,λJ=>true,λj h1 J=>absurd h1 (dX j),rfl⟩)
 ·refine m8 rs λv vs rv rs=>m8 ts λu us ru ts=>?_
  refine jP (ih rs ts) λhl h2=>⟨congrArg Nat.succ hl,h2.elim λg z=>⟨λj=>Nat.casesOn j e g,λj h1 h2=>?_,?_⟩⟩
  ·cases j with
  |zero=>exact hf h rv ru
  |succ j=>exact z.1 j (cj h1) (cj h2)
  ·rw [aZ,List.range_succ_eq_map,List.all_cons,List.all_map]
   exact congrArg (e && ·) z.2
theorem Rn(h:Ji p q=some b):∃x y,p=.str x/\q=.str y/\sq x y=b:=jz h λx e h=>jH h λy e' h=>⟨x,y,wc e,wc e',h⟩
theorem afx(h:Ji p q=some b)(r:VR X v p)(t:VR X u q):EqAt A s v u b:=by
 obtain ⟨x,y,rfl,rfl,rfl⟩:=Rn h
 rw [Js]
 exact vS r λJ=>vS t λJ=>EqAt.str_str x _ y _
theorem Ro(xs:List Str):∀{ys:List Str} {vs:List Value},jI X vs (xs.map .str)->jI X vs (ys.map .str)->xs=ys:=by
 induction xs with
|nil=>
  intro ys vs a c
  cases ys with
 |nil=>rfl
 |cons y ys=>exact m8 (R:=λvs=>jI X vs []->[]=y::ys) c (λJ J J J a=>nomatch a) a
|cons x xs ih=>
  intro ys vs a c
  revert c
  refine m8 a λv vs r rs c=>?_
  cases ys with
 |nil=>exact nomatch c
 |cons y ys=>
   refine Er c λJ J e r' Ci=>?_
   obtain ⟨rfl,rfl⟩:=List.cons.inj e
   rw [ih rs Ci]
   refine o6 r λJ e=>o6 r' λJ e'=>?_
   exact congrArg (·::ys) (Value.str.inj (e.symm.trans e')).1
theorem Rp(h:zW ps qs=some b):∃xs ys:List Str,ps=xs.map .str/\qs=ys.map .str/\(xs=ys->b=true):=
 Rl (P:=λps qs b=>∃xs ys:List Str,ps=xs.map .str/\qs=ys.map .str/\(xs=ys->b=true)) ⟨[],[],rfl,rfl,λJ=>rfl⟩ (λJ J J J J t h J ih=>by
  obtain ⟨x,y,rfl,rfl,rfl⟩:=Rn h
  obtain ⟨xs,ys,rfl,rfl,k⟩:=ih
  exact ⟨x::xs,y::ys,rfl,rfl,λe=>by rw [k (List.cons.inj e).2,dZ];exact kj.mpr (List.cons.inj e).1⟩) h
theorem Rq{m:Nat}{o:Option Obj}(h:o=some (tX vs n))(k:o=some (tX us m)):us=vs:=by
 injection h.symm.trans k with e;injection e with _ _ e _;injection e with e;exact (congrArg fY e).symm
theorem Rr{x y:List PV}(h:zW x y=some b)(r:VR X v (.tup x))(t:VR X u (.tup y))(B:Base w X η s.heap)(hu:A.units<cLine):RcAt A s v u b:=by
 refine vU r λa vs n e1 r1=>vU t λc us m e2 r2=>?_
 refine jP (Rm (A:=A.in1) (s:=s) (λh=>afx h) h r1 r2) λhl z=>z.elim λe z=>?_
 have:=RcAt.tuples (e:=e) (v8 (B.fz e1)) (v8 (B.fz e2)) hu z.1
 rw [bM,bM,<-hl,Nat.min_self,beq_self_eq_true,dZ,z.2] at this
 exact this
theorem Rt{P:PV->PV->Bool->Prop}(h:oV p q=some b)(nn:P .none .none true)(ns:∀x,P .none (.str x) false)(sn:∀x,P (.str x) .none false)(nb:∀x,P .none (.bool x) false)(bn:∀x,P (.bool x) .none false)(bb:∀x y,P (.bool x) (.bool y) (x == y))(ii:∀x y,P (.int x) (.int y) (decide (x=y)))(ss:∀x y,P (.str x) (.str y) (x == y))(tt:∀x y b,zW x y=some b->P (.tup x) (.tup y) b):P p q b:=by
 induction p using PV.casesOn with
|none=>induction q using PV.casesOn with
 |none=>exact ai h▸nn
 |str x=>exact ai h▸ns x
 |bool x=>exact ai h▸nb x
 |_=>exact xn h
|bool x=>induction q using PV.casesOn with
 |none=>exact ai h▸bn x
 |bool y=>exact ai h▸bb x y
 |_=>exact xn h
|int x=>exact jH h λy e h=>v9 e▸h▸ii x y
|str x=>induction q using PV.casesOn with
 |none=>exact ai h▸sn x
 |str y=>exact ai h▸Js x y▸ss x y
 |_=>exact xn h
|tup x=>exact jz h λy e h=>Ch e▸tt x y b h
|_=>exact xn h
theorem Jy{P:Value->Value->Bool->Prop}(h:oV p q=some b)(r:VR X v p)(t:VR X u q)(nn:P .none .none true)(ns:∀x t,P .none (.str x t) false)(sn:∀x t,P (.str x t) .none false)(nb:∀x,P .none (.bool x) false)(bn:∀x,P (.bool x) .none false)(bb:∀x y,P (.bool x) (.bool y) (x == y))(ii:∀x t y u,P (.int x t) (.int y u) (decide (x=y)))(ss:∀x t y u,P (.str x t) (.str y u) (x == y))(tt:∀x y,zU p=true->zW x y=some b->VR X v (.tup x)->VR X u (.tup y)->P v u b):P v u b:=by
 refine Rt (P:=λp q b=>VR X v p->VR X u q->(∀x y,zU p=true->zW x y=some b->VR X v (.tup x)->VR X u (.tup y)->P v u b)->P v u b) h ?_ ?_ ?_ ?_ ?_ ?_ ?_ ?_ ?_ r t tt
 ·exact λr t J=>vN r (vN t nn)
 ·exact λx r t J=>vN r (vS t (ns x))
 ·exact λx r t J=>vN t (vS r (sn x))
 ·exact λx r t J=>vN r (vB t (nb x))
 ·exact λx r t J=>vN t (vB r (bn x))
 ·exact λx y r t J=>vB r (vB t (bb x y))
 ·exact λx y r t J=>vI r λi=>vI t (ii x i y)
 ·exact λx y r t J=>vS r λi=>vS t (ss x i y)
 ·exact λx y b e r t k=>k x y rfl e r t
theorem Ru(h:oV p q=some b)(r:VR X v p)(t:VR X u q)(B:Base w X η s.heap)(hu:A.units<cLine):EqAt A s v u b:=
 Jy (P:=EqAt A s) h r t (.same _) (λJ=>EqAt.none_str _) (λJ=>EqAt.str_none _) EqAt.none_bool EqAt.bool_none EqAt.bool_bool EqAt.int_int EqAt.str_str λx y J h r t=>by
  have k:=Rr h r t B hu
  revert k
  refine vU r λa vs n e1 r1=>vU t λc us m e2 r2 k=>?_
  by_cases Jz:a=c
  ·obtain ⟨xs,ys,rfl,rfl,k⟩:=Rp h
   rw [k (Ro xs r1 (Rq (Jz▸e1) e2▸r2)),Jz]
   exact .same _
  ·exact .of_refs Jz k
theorem afy(h:oV p q=some b)(r:VR X v p)(t:VR X u q)(B:Base w X η s.heap)(hu:A.units<cLine):RcAt A s v u b:=
 Jy (P:=RcAt A s) h r t RcAt.none_none (λJ=>RcAt.none_str _) (λJ=>RcAt.str_none _) RcAt.none_bool RcAt.bool_none RcAt.bool_bool RcAt.int_int RcAt.str_str λx y J h r t=>Rr h r t B hu
theorem afz(h:oV p q=some b)(hp:zU p=false)(r:VR X v p)(t:VR X u q):RcNeAt A s v u (!b):=
 Jy (P:=λv u b=>RcNeAt A s v u (!b)) h r t RcNeAt.none_none (λJ=>RcNeAt.none_str _) (λJ=>RcNeAt.str_none _) RcNeAt.none_bool RcNeAt.bool_none RcNeAt.bool_bool RcNeAt.int_int RcNeAt.str_str λx y e J J J=>xg (e.symm.trans hp)
noncomputable def Rv:Value->Option PV
|.none=>some .none
|.bool b=>some (.bool b)
|.int i _=>some (.int i)
|.str s _=>some (.str s)
|_=>none
theorem JA(r:VR X v p)(h:oV p a=some b):Rv v=some p\/∃(x:List Str) (l:Addr),p=.tup (x.map .str)/\v=.ref l:=
 Rt (P:=λp J J=>VR X v p->Rv v=some p\/∃(x:List Str) (l:Addr),p=.tup (x.map .str)/\v=.ref l) h (λr=>.inl (vN r rfl)) (λJ r=>.inl (vN r rfl)) (λJ r=>.inl (vS r λJ=>rfl)) (λJ r=>.inl (vN r rfl)) (λJ r=>.inl (vB r rfl)) (λJ J r=>.inl (vB r rfl)) (λJ J r=>.inl (vI r λJ=>rfl)) (λJ J r=>.inl (vS r λJ=>rfl))
  (λJ J J h r=>(Rp h).elim λx z=>z.elim λJ z=>vU r λl J J J J=>.inr ⟨x,l,congrArg _ z.1,rfl⟩) r
theorem afA(r:VR X v p)(r':VR X v q)(h:oV p a=some b)(h':oV q a=some c):b=c:=by
 suffices e:p=q from ai ((e▸h).symm.trans h')
 rcases JA r h with e|⟨x,l,rfl,rfl⟩
 ·rcases JA r' h' with e'|⟨y,l,rfl,rfl⟩
  ·exact ai (e.symm.trans e')
  ·exact xn e
 ·rcases JA r' h' with e'|⟨y,m,rfl,e'⟩
  ·exact xn e'
  ·exact Qw r λa1 vs n e1 f1 r1=>Qw r' λa2 us m e2 f2 r2=>congrArg (λx:List Str=>PV.tup (x.map .str)) (Ro x r1 (Rq f1 (cJ (e1.symm.trans e2)▸f2)▸r2))
def yJ(X:Em)(a:PV)(y:Value):Bool:=@decide (∃p,VR X y p/\oV p a=some true) (fZ _)
theorem EK(r:VR X v p)(h:oV p a=some b):yJ X a v=b:=by
 cases b
 ·exact @decide_eq_false _ (fZ _) λz=>z.elim λq z=>xg (afA z.1 r z.2 h)
 ·exact @decide_eq_true _ (fZ _) ⟨p,r,h⟩
theorem Rw{l:List PV}:∀{b:Bool},sM a l=some b->∀p∈l,∃c,oV p a=some c:=by
 induction l with
|nil=>exact λJ p hp=>absurd hp aU
|cons q l ih=>exact λh p hp=>jz h λe h1 h=>jH h λJ h2 J=>(aB.mp hp).elim (λz=>⟨e,z▸h1⟩) (ih h2 p)
theorem afB{l:List PV}:∀{b:Bool} {vs:List Value},sM a l=some b->jI X vs l->vs.any (yJ X a)=b:=by
 induction l with
|nil=>exact λh rs=>o7 rs (ai h)
|cons q l ih=>exact λh rs=>jz h λe h1 h=>jH h λJ h2 h=>m8 rs λv vs r rs=>h▸ih h2 rs▸EK r h1▸List.any_cons
theorem jI.mem{l:List PV}:∀{vs:List Value},jI X vs l->∀{u:Value},u∈vs->∃p,p∈l/\VR X u p:=by
 induction l with
|nil=>exact λrs=>o7 rs λh=>absurd h aU
|cons p l ih=>exact λrs=>m8 rs λv vs r rs h=>(aB.mp h).elim (λz=>⟨p,bL ..,z▸r⟩) λz=>(ih rs z).elim λq z=>⟨q,bu _ z.1,z.2⟩
theorem Ry{l:List PV}(hd:∀p∈l,∃c,oV p a=some c)(rs:jI X vs l)(r:VR X v a)(B:Base w X η s.heap)(hu:A.units<cLine)(y:Value)(hy:y∈vs.toArray):EqAt A s y v (yJ X a y):=
 (rs.mem (List.mem_toArray.mp hy)).elim λp z=>(hd p z.1).elim λc h=>EK z.2 h▸Ru h z.2 r B hu
theorem Rz(h:uR p q η=some b)(r:VR X v p)(t:VR X u q)(B:Base w X η s.heap)(hu:A.units+1<cLine):RcAt A s v u b/\(zU p=false->RcNeAt A s v u (!b)):=by
 have Cj:A.units<cLine:=Nat.lt_of_succ_lt hu
 unfold uR at h
 generalize gR p=o at h
 cases o with
|none=>exact ⟨afy h r t B Cj,λk=>afz h k r t⟩
|some _=>
  refine jz h λl g1 h=>jz h λl' g2 h=>xC B g1 r λa vs n e1 rs=>xC B g2 t λc us m e2 ts=>xd (aj l.length l'.length) (λc=>?_) λc=>?_
  ·rw [c] at h
   refine xd (sameAt p q) (λc=>xn ((congrArg (λc=>cond c none (BZ l l')) c).symm.trans h)) λc=>?_
   have h:BZ l l'=some b:=(congrArg (λc=>cond c none (BZ l l')) c).symm.trans h
   exact jP (Rm (A:=A.in1) (s:=s) (λh r t=>Ru h r t B hu) h rs ts) λhl z=>z.elim λe z=>z.2▸⟨RcAt.lists (oW e1) (oW e2) hl Cj z.1,λJ=>RcNeAt.lists (oW e1) (oW e2) hl Cj z.1⟩
  ·rw [c] at h
   have hz:(vs.toArray.size != us.toArray.size)=true:=bne_iff_ne.mpr λe=>iA c (rs.length.symm.trans (e.trans ts.length))
   exact ai h▸⟨RcAt.lists_lengths (oW e1) (oW e2) hz Cj,λJ=>RcNeAt.lists_lengths (oW e1) (oW e2) hz Cj⟩
variable{E:Value->Shared->Prop}{Q:Value->Shared->Prop}
theorem afC{P:PV->PV->Bool->Prop}(h:sN p q η=some b)(tt:∀p l b,sM p l=some b->P p (.tup l) b)(ll:∀p r i l b,η.get r i=some (.list l)->sM p l=some b->P p (.ref r i) b)(sd:∀x r i l u,η.get r i=some (.sd l u)->P (.str x) (.ref r i) (jv l x).isSome)(id:∀x r i l,η.get r i=some (.sL l)->P (.int x) (.ref r i) (rQ l x).isSome)
  (ds:∀x r i,η.get r i=some .jE->P (.str x) (.ref r i) false) (di:∀x r i,η.get r i=some .jE->P (.int x) (.ref r i) false):P p q b:=by
 unfold sN at h
 refine xo (gT q) (λe=>?_) λl e=>?_
 ·rw [e] at h
  refine jz h λa ea h=>jz h λo g h=>uW ea▸?_
  induction o using AO.casesOn with
 |list l=>exact ll _ _ _ _ _ g h
 |sd l u=>exact jH h λx e h=>wc e▸h▸sd x _ _ l u g
 |sL l=>exact jH h λx e h=>v9 e▸h▸id x _ _ l g
 |jE=>exact xc h λc h=>ai h▸((bC _ _).mp c).elim (λc=>(cz.mp c).elim λx e=>wc e▸ds x _ _ g) λc=>(cz.mp c).elim λx e=>v9 e▸di x _ _ g
 |inst _ _=>exact xn h
 ·rw [e] at h
  exact Ch e▸tt _ _ _ h
theorem RA(h:sN p q η=some b)(r:VR X v p)(t:VR X u q)(B:Base w X η s.heap)(hu:A.units+1<cLine)(n:Bool)(k:∀t,Q (.bool (b != n)) { s with toks:=t }):wpAny (model pw w) A (compareOp (cond n .NotIn .In) v u) Q E s:=by
 have seq:∀{a vs l p b},VR X v p->s.heap.IsTuple a vs\/s.heap.IsList a vs->sM p l=some b->jI X vs.toList l->(∀t,Q (.bool (b != n)) { s with toks:=t })->wpAny (model pw w) A (compareOp (cond n .NotIn .In) v (.ref a)) Q E s:=λ{a vs l p b} r L h rs k=>by
  have he:=Ry (A:=A.in1) (Rw h) rs r B hu
  have k:=k s.toks
  rw [<-(Array.any_toList).symm.trans (afB h rs)] at k
  cases n
  ·rw [gb] at k
   exact L.elim (λL=>in_tupleAt _ L he k) λL=>in_listAt _ L he k
  ·rw [gf] at k
   exact L.elim (λL=>notIn_tupleAt _ L he k) λL=>notIn_listAt _ L he k
 have dict:∀{K:Type} [DecidableEq K] {knd:KeyKind pw w K} {kvs:List (K×Value)} {l:List (K×PV)} {x:K} {a r i:_} {b:Bool},X.ad r i false=some a->s.heap.DictOf knd a kvs->KR X kvs l->knd.is x v=true->(uT l x).isSome=b->(∀t,Q (.bool (b != n)) { s with toks:=t })->wpAny (model pw w) A (compareOp (cond n .NotIn .In) v (.ref a)) Q E s:=λea D R hk hb k=>by
  have k:=k (s.toks+1)
  rw [<-(afr R).trans hb] at k
  cases n
  ·rw [gb] at k
   exact wpAny_in_of hk (B.v7 ea) D.mapOf k
  ·rw [gf] at k
   exact wpAny_notIn_of hk (B.v7 ea) D.mapOf k
 refine afC (P:=λp q b=>VR X v p->VR X u q->(∀t,Q (.bool (b != n)) { s with toks:=t })->wpAny (model pw w) A (compareOp (cond n .NotIn .In) v u) Q E s) h ?_ ?_ ?_ ?_ ?_ ?_ r t k
 ·exact λp l b h r t k=>vU t λa vs n e rs=>seq r (.inl (v8 (B.fz e))) h rs k
 ·exact λp r i l b g h rv t k=>uV B t g λa vs n J e rs=>seq rv (.inr (oW e)) h rs k
 ·exact λx r i l u g rv t k=>yI B t g λa kvs e ea J D R=>dict ea D.dictOf R (vS rv λt=>strKind_is pw w x t) (Jt l x▸rfl) k
 ·exact λx r i l g rv t k=>idE B t g λa kvs ea D R=>dict ea D R (vI rv λt=>intKind_is pw w x t) (afp l x▸rfl) k
 ·exact λx r i g rv t k=>Ce B t g λa ea e=>dict ea (yH (knd:=strKind pw w) e).dictOf .nil (vS rv λt=>strKind_is pw w x t) rfl k
 ·exact λx r i g rv t k=>Ce B t g λa ea e=>dict ea (yH (knd:=intKind pw w) e).dictOf .nil (vI rv λt=>intKind_is pw w x t) rfl k
theorem RB(r:VR X v p):(v == .none)=mJ p:=by
 induction p using PV.casesOn with
|none=>exact vN r rfl
|bool _=>exact vB r rfl
|int _=>exact vI r λJ=>rfl
|str _=>exact vS r λJ=>rfl
|tup _=>exact vU r λJ J J J J=>rfl
|ref _ _=>exact vR r λJ J=>rfl
|st y=>
  refine vT r λh=>?_
  cases y<;>first|rfl|exact xf h
|fl _=>exact vF r λJ J J J J J J J=>rfl
|mU _ _=>exact vG r λJ J J J=>rfl
theorem EL(h:mJ p=true):p=.none:=by
 cases p<;>first|rfl|exact xf h
theorem RC{op:CmpOp}(h:nh op p q η=some b)(r:VR X v p)(t:VR X u q)(B:Base w X η s.heap)(hu:A.units+1<cLine)(k:∀t,Q (.bool b) { s with toks:=t }):wpAny (model pw w) A (compareOp op v u) Q E s:=by
 induction op using CmpOp.casesOn with
|Is=>exact xc h λc h=>vN (X:=X) (v:=u) (EL c▸t) (is_none (RB r▸ai h▸k _))
|IsNot=>exact xc h λc h=>vN (X:=X) (v:=u) (EL c▸t) (isNot_none (RB r▸ai h▸k _))
|Eq=>exact (Rz h r t B hu).1 pw w _ _ (k _)
|NotEq=>
  refine xd (zU p) (λc=>xn ((congrArg (λc=>cond c none ((uR p q η).map (!·))) c).symm.trans h)) λc=>jH ((congrArg (λc=>cond c none ((uR p q η).map (!·))) c).symm.trans h) λd e h=>?_
  exact (Rz e r t B hu).2 c pw w _ _ (h▸k _)
|In=>exact RA h r t B hu false (by rw [gb];exact k)
|NotIn=>exact jH h λd e h=>RA e r t B hu true (by rw [gf,h];exact k)
|Lt=>exact jz h λx e h=>jH h λy e' (h:decide (x<y)=b)=>uh e r λJ=>uh e' t λJ=>PyProof.Rows.lt_int (h▸k _)
|Gt=>exact jz h λx e h=>jH h λy e' (h:decide (y<x)=b)=>uh e r λJ=>uh e' t λJ=>PyProof.Rows.gt_int (h▸k _)
|GtE=>exact jz h λx e h=>jH h λy e' (h:decide (y<=x)=b)=>uh e r λJ=>uh e' t λJ=>PyProof.Rows.ge_int (h▸k _)
|_=>exact xn h
end
end
section
open PySem.SeqAt
section
variable{w:World}{X:Em}{jt:AH}{s s':Shared}{v u:Value}{p q o:PV}{T:Tab}{E:Value->Shared->Prop}{Q:Value->Shared->Prop}{i:Nat}
theorem jI.replicate{vs:List Value}{l:List PV}(r:jI X vs l):∀k:Nat,jI X (bq k vs).flatten (bq k l).flatten
|0=>.nil
|k+1=>r.append (jI.replicate r k)
theorem RD(items:List Value):∀(k:Nat) (acc:List Value),d7 (λ(x1 x2:Array Value)=>x1++x2) acc.toArray (bq k items.toArray)=(acc++(bq k items).flatten).toArray
|0,acc=>(congrArg cK (bU acc)).symm
|k+1,acc=>by
  rw [List.replicate_succ,List.foldl_cons,eW,RD items k,bQ]
  rfl
theorem RG{y:Int}(h:y.natAbs<1073741824):iD y<=64:=by
 unfold iD
 by_cases q:(y == 0)=true
 ·rw [if_pos q];decide
 ·rw [if_neg q]
  exact aaF ((Nat.log2_lt λe=>q (beq_iff_eq.mpr (Int.natAbs_eq_zero.mp e))).mpr h)
theorem afD{op:Operator}{x y z:Int}{t t':Tok}(h:Jl op x y=some z)(k:∀RH n,Q (.int z RH) { s with toks:=n }):wpAny (model pw w) A (binaryOp op (.int x t) (.int y t')) Q E s:=by
 induction op using Operator.casesOn with
|Add=>exact PyProof.Rows.add_int (ai h▸k _ _)
|Mult=>exact xc h λc h=>PyProof.Rows.mul_int (ai h▸k _ _) (.of_right (RG (uU c)))
|FloorDiv=>exact xc h λc h=>xb c λc1 c2=>PyProof.Rows.floordiv_int (Int.ne_of_gt (of_decide_eq_true c1)) (ai h▸k _ _) (.inl (PyProof.noPylong_small (uU c2)))
|Mod=>exact xc h λc h=>PyProof.Rows.mod_int (Int.ne_of_gt (of_decide_eq_true c)) (ai h▸k _ _)
|Pow=>
  refine xc h λc h=>xb c λc c3=>xb c λc1 c2=>?_
  obtain rfl:=of_decide_eq_true c1
  refine PyProof.Rows.pow_int (of_decide_eq_true c2) (dF (Int.mul_le_mul ?_ (of_decide_eq_true c3) (of_decide_eq_true c2) (by decide:(0:Int)<=64)) (dc rfl)) (ai h▸k _ _)
  exact_mod_cast RG (dc rfl)
|_=>exact xn h
theorem JB{op:Operator}(h:EB op=true):op=.Add:=by
 cases op<;>first|rfl|exact xf h
theorem afE{op:Operator}(h:QZ op=true):op=.Mult:=by
 cases op<;>first|rfl|exact xf h
theorem afF{k:Int}{a:Addr}{vs:List Value}{t:Tok}(e:s.heap.get? a=some (rJ vs n))(h0:0<=k)(h3:k<=3)(hz:3*vs.length<=65536)(h:∀t,Q (.ref s.heap.objs.size) { s with heap:=s.heap.push (rJ (bq k.toNat vs).flatten 0),toks:=t }):wpAny (model pw w) A (binaryOp .Mult (.ref a) (.int k t)) Q E s:=by
 have q8:vs.toArray.size*k.toNat<=2 ^ 24:=by
  rw [bM]
  exact ah (bE _ (show k.toNat<=3 from by exact aaG h3)) (by rw [Nat.mul_comm];exact ah hz (dc rfl))
 have hf:d7 (λ(x1 x2:Array Value)=>x1++x2) #[] (bq (if vs.toArray.isEmpty=true then 0 else k.toNat) vs.toArray)=(bq k.toNat vs).flatten.toArray:=by
  cases vs with
 |nil=>simp
 |cons a b=>exact RD (a::b) k.toNat []
 refine wpAny_binaryOp_repeat_ref (T:="list") (U:="int") (dc rfl) ⟨_,e,rfl⟩ (λs'=>typeIs_int s' _ _) noFill_list_mul F.fills_int_mul F.slot_int_rmul repeat_list F.slot_int_index.lookup
  (call_meets F.slot_int_rmul (typeIs_int s _ _) F.entry_int_rmul (F.args_int_rmul_2 _ _) (int___rmul___int_list k t a vs.toArray n)
   ⟨e,rfl,⟨_,e,rfl⟩,call_meets F.slot_list_mul ⟨_,e,rfl⟩ F.entry_list_mul (F.args_list_mul_2 _ _)
    (AutoListH.list___mul___list_int_3 a vs.toArray n k t (by simp [iE];exact aaH h0 h3) (by omega) (by simp [Builtin.List.listTooLong,sizeLine] at q8 ⊢;assumption))
    ⟨e,?_⟩⟩)
 rw [hf]
 exact h _
theorem afG{op:Operator}{x:PV×AH}(h:qZ op p q η=some x)(rv:VR X v p)(t:VR X u q)(B:Base w X η s.heap)(k:∀{v s'},GE w X s x.2 x.1 v s'->Q v s'):wpAny (model pw w) A (binaryOp op v u) Q E s:=by
 induction p using PV.casesOn with
|int a=>exact jz h λb e h=>jH h λz e' h=>vI rv λi=>uh e t λj=>afD e' λRH n=>k (h▸.tok B (.int _ _))
|str a=>exact jz h λb e h=>xc h λc h=>xb c λc1 c2=>vS rv λi=>EJ e t λj=>JB c1▸PySem.SB.add (λt' n=>k (ai h▸.tok B (.str _ _))) (ah (qH c2) (dc rfl))
|ref r i=>
  refine jz h λl e h=>uV B rv (wg e) λa vs n J e1 rs=>xo (gI q) (λg=>?_) λj g=>?_
  ·rw [g] at h
   refine jz h λl' e' h=>xc h λc h=>xb c λc1 c2=>xC B e' t λa2 us m e2 ts=>?_
   refine JB c1▸PySem.P.add_list e1 e2 ?_ ?_
   ·rw [eW]
    exact k (ai h▸Cg B (rs.append ts))
   ·rw [bM,bM,rs.length,ts.length]
    exact ah (qH c2) (dc rfl)
  ·rw [g] at h
   refine xc h λc h=>xb c λc c4=>xb c λc c3=>xb c λc1 c2=>uh g t λtk=>?_
   exact afE c1▸afF e1 (of_decide_eq_true c2) (of_decide_eq_true c3) (by rw [rs.length];exact qH c4) λt=>k (ai h▸Cg B (rs.replicate _))
|_=>exact xn h
def Kf(P:Params):Frag:=(objs P).zipIdx.map λp=>(p.2,p.1)
theorem RJ{o:Obj}:∀(l:List Obj) (k a:Nat),((l.zipIdx k).map λp=>(p.2,p.1)).lookup a=some o->k<=a/\l[a - k]?=some o
|[],k,a,h=>xn h
|x::l,k,a,h=>by
  rw [List.zipIdx_cons,bT,bB] at h
  refine xd (a == k) (λq=>?_) λq=>?_
  ·rw [q] at h
   rw [eq_of_beq q,gh]
   exact ⟨ak _,h⟩
  ·rw [q] at h
   refine jP (RJ l (k+1) a h) λh1 h2=>⟨cw h1,?_⟩
   rw [show a - k=(a - (k+1))+1 from by exact aew h1]
   exact h2
theorem Base.kf(B:Base w X η s.heap):(Kf w.params).In s.heap:=λa o h=>B.fz (B.st (RJ _ 0 a h).2)
structure afH(P:Params)(c:Addr)(name:Str):Prop where
 get:plainGet (Kf P) c name=true
 dict:hasDictIn (Kf P) c=true
 find:findIn (Kf P) (.ref c) name=some none
 set:findIn (Kf P) (.ref c) "__setattr__"=some (some (.builtin "object.__setattr__"))
 over:plainOver (Kf P) c=true
def EP(P:Params)(T:Tab):Prop:=∀c ns,jL T.fields c=some ns->∀a,o8 ns a=true->afH P c a
theorem afJ{o:Obj}{es:Array DictEntry}{ep:Nat}{m:Str->Option Value}(hd:o.data=.dict es ep)(hk:StrKeys es)(hf:∀name,nsFind es name=m name)(name:Str):lookIn name o=some (m name):=by
 unfold lookIn
 rw [hd,<-hf]
 dsimp only
 have:nsFind es name=(es.toList.find? (·.key.isStr name)).map (·.val):=by
  unfold nsFind findBy
  rw [<-Array.find?_toList]
 rw [this]
 cases es.toList.find? (·.key.isStr name) with
|some e=>rfl
|none=>
  have hn:es.toList.any (·.refKey)=false:=by
   rw [gj]
   intro e he
   obtain ⟨n,t,afK⟩:=hk e (eX.mp he)
   simp [iF,afK]
  simp [hn]
@[elab_as_elim] theorem EQ{P:Value->Prop}{c:Addr}(B:Base w X η s.heap)(rv:VR X v (.ref r i))(g:η.get r i=some (.inst c fs))
  (k:∀a dx m o,X.ad r i false=some a->X.ad r i true=some dx->PySem.W.InstAt s.heap a (Je c dx) c (some o)->(∀name,lookIn name o=some (m name))->rK s.heap dx m fs.length->NR X m fs->P (.ref a)):P v:=
 Cd B rv g λa ea x=>ay x λdx x=>x.elim λm x=>x.2.2.1.elim λo z=>z.elim λes z=>z.elim λep z=>k a dx m o ea x.1 ⟨x.2.1,rfl,rfl,z.1⟩ (afJ z.2.1 z.2.2.1 z.2.2.2.1) x.2.2.1 x.2.2.2
theorem afL(r:VR X v p)(h:oK p=true):handedIn v=true:=by
 induction p using PV.casesOn with
|none=>exact vN r rfl
|bool _=>exact vB r rfl
|int _=>exact vI r λJ=>rfl
|str _=>exact vS r λJ=>rfl
|tup _=>exact vU r λJ J J J J=>rfl
|ref _ _=>exact vR r λJ J=>rfl
|st y=>
  refine vT r λJ=>?_
  cases y<;>first|rfl|exact xf h
|fl _=>exact vF r λJ J J J J J J J=>rfl
|mU _ _=>exact vG r λJ J J J=>rfl
theorem NR.has{m:Str->Option Value}{x:Str}(h:NR X m fs)(g:jv fs x=some p):∃v,m x=some v/\VR X v p:=by
 rw [xB] at g
 exact (h x).elim (λz=>xm (g.symm.trans z.1)) λz=>z.elim λq z=>z.elim λv z=>⟨v,z.2.1,ai (z.1.symm.trans g)▸z.2.2⟩
theorem NR.no{m:Str->Option Value}{x:Str}(h:NR X m fs)(g:jv fs x=none):m x=none:=by
 rw [xB] at g
 exact (h x).elim (λz=>z.2) λz=>z.elim λq z=>z.elim λv z=>xm (z.1.symm.trans g)
theorem afM{a:Str}{G:Prop}(h:kE T o a η=some p)(k:∀{r i c fs ns},o=.ref r i->η.get r i=some (.inst c fs)->jL T.fields c=some ns->o8 ns a=true->jv fs a=some p->oK p=true->G):G:=
 jz h λJ e h=>jz h λJ e2 h=>jz h λJ e3 h=>xc h λc1 h=>jz h λJ hq h=>xc h λc2 h=>k (uW e) (EI e2) e3 c1 (hq.trans h) (ai h▸c2)
theorem RK(FO:EP w.params T){a:Str}{expr:Bool}(h:kE T o a η=some p)(rv:VR X v o)(B:Base w X η s.heap)(k:∀{v} t,VR X v p->Q v { s with toks:=t }):wpAny (model pw w) A (getAttr v a expr) Q E s:=
 afM h λe g e3 c1 hq c2=>EQ (v:=v) B (e▸rv) g λad dx m ob ea ed I lk hn hr=>(hr.has hq).elim λu z=>
  have F:=FO _ _ e3 _ c1
  get_value B.kf I (plainGet_of F.get).1 (findObj_own F.dict F.find rfl ((lk a).trans (congrArg some z.1))) (afL z.2 c2) (k _ z.2)
theorem afN(fs:List (Str×PV))(x y:Str)(p:PV):(jN fs x p).lookup y=if y=x then some p else fs.lookup y:=by
 rw [<-xB,v5,xB]
theorem ER(fs:List (Str×PV))(x:Str)(p:PV):(jN fs x p).length=if (jv fs x).isSome then fs.length else fs.length+1:=by
 induction fs with
|nil=>rfl
|cons q r ih=>
  show (cond (sq q.1 x) ((q.1,p)::r) (q::jN r x p)).length=if (cond (sq q.1 x) (some q.2) (jv r x)).isSome then _ else _
  cases sq q.1 x with
 |true=>rfl
 |false=>
   show (jN r x p).length+1=if (jv r x).isSome then r.length+1 else r.length+1+1
   rw [ih]
   cases (jv r x).isSome<;>rfl
theorem afO{h:Heap}{o:Obj}{es:Array DictEntry}{ep k t:Nat}{m:Str->Option Value}(D:h.get? dx=some o)(hd:o.data=.dict es ep)(hk:StrKeys es)(hf:∀name,nsFind es name=m name)(q8:es.size<=k){hash:Int}:
  rK (h.update dx (Obj.putName name hash (.str name t) v)) dx (λy=>if y=name then some v else m y) (if (m name).isSome then k else k+1):=by
 obtain ⟨c,d,dt,sl⟩:=o
 dsimp only at hd
 subst hd
 cases hi:es.findIdx? (·.key.isStr name) with
|some i=>
  refine ⟨_,_,ep,gm _ D (by simp only [eY,eZ,hi];rfl),(by simp only [eY,eZ,hi];rfl),hk.modify _ _,λx=>?_,?_⟩
  ·show _=if x=name then some v else m x
   rw [<-hf x];exact findBy_modify (λn v=>v.isStr n) Value.isStr_inj es name x v i hi
  ·rw [Array.size_modify]
   split<;>(first|assumption|exact zI q8)
|none=>
  have hm:m name=none:=by
   rw [<-hf]
   unfold nsFind findBy
   rw [Array.findIdx?_eq_none_iff] at hi
   rw [Array.find?_eq_none.mpr (λe he=>by show ¬ e.key.isStr name=true;rw [hi e he];decide)];rfl
  refine ⟨_,_,ep+1,gm _ D (by simp only [eY,eZ,hi];rfl),(by simp only [eY,eZ,hi];rfl),hk.push _ _ _ _,λx=>?_,?_⟩
  ·show _=if x=name then some v else m x
   rw [<-hf x]
   exact findBy_push (λn v=>v.isStr n) es name x _ _ v (λy=>(iB name y).trans (decide_eq_decide.mpr eq_comm)) hi
  ·rw [hm,Array.size_push]
   exact aL q8
theorem afP{m:Str->Option Value}{k:Nat}{Q:Unit->Shared->Prop}(hn:rK s.heap dx m k)
  (h:∀h',rK h' dx (λy=>if y=name then some v else m y) (if (m name).isSome then k else k+1)->bY dx s.heap h'->Q () { s with heap:=h',toks:=s.toks+1 }):wpAny (model prog w) A (nsSet dx name v) Q E s:=by
 obtain ⟨o,es,ep,D,hd,hk,hf,q8⟩:=hn
 unfold nsSet
 refine wpAny_bind (wpAny_bind (wpAny_askSetting (wpAny_pure (wpAny_bind (wpAny_mkText (wpAny_bind (wpAny_loadPart D ?_)))))))
 rw [hd]
 dsimp only
 have afQ:es.any (·.refKey)=false:=by
  rw [Array.any_eq_false'];intro e he;obtain ⟨n,t,h⟩:=hk e he;simp [iF,h]
 rw [aRefKeyMayBeTheName_at,afQ,Bool.and_false]
 refine wpAny_updatePart D (h _ ?_ (d8 ..))
 exact afO D hd hk hf q8
theorem afR{h:Heap}{m:Str->Option Value}{k:Nat}(hn:rK h dx m k)(hz:k<=65537):∃o,h.get? dx=some o/\o.data.pastItsLine=none:=hn.elim λo z=>z.elim λes z=>z.elim λep z=>⟨o,z.1,z.2.1▸pastItsLine_dict (ah z.2.2.2.2 (ah hz (by rw [sizeLine_eq];decide)))⟩
theorem afS{R:Result->Shared->Prop}{K:Frag}{x C:Addr}{od:Obj}{tk:Tok}{m:Str->Option Value}(X:K.In s.heap)(I:PySem.W.InstAt s.heap x (Je C dx) C (some od))(hp:plainOver K C=true)
  (ht:takerIn K C name=some none) (hh:(clsIn K C).any (·.hasDict)=true) {k:Nat} (hn:rK s.heap dx m k) (hz:k+1<=65537)
  (h:∀h',rK h' dx (λy=>if y=name then some v else m y) (if (m name).isSome then k else k+1)->bY dx s.heap h'->R (.ok (.ret .none)) { s with heap:=h',toks:=s.toks+1 }) :
  codeAny (model prog w) A (.call (.builtin "object.__setattr__") ⟨[.ref x,.str name tk,v],[]⟩) R s:=(any_some hh).elim λcd z=>by
 refine osa_open X I hp ht λb=>wpAny_bind (wpAny_pure (wpAny_bind (wpAny_bind (wpAny_loadPart I.1 (wpAny_bind ((looks_clsIn X z.1).here ?_))))))
 rw [z.2]
 refine wpAny_pure (a:=some dx) (wpAny_bind (wpAny_pure (wpAny_bind (afP hn λh' pO hs=>?_))))
 refine (afR pO (by split<;>first|exact hz|exact cw hz)).elim λo y=>?_
 refine wpAny_bind (wpAny_lookBehind y.1 y.2 ?_)
 exact wpAny_pure (h h' pO hs)
theorem afT{m m':Str->Option Value}{a:Str}(hn:rK h' dx m' (if (m a).isSome then fs.length else fs.length+1))(hr:NR X m fs):rK h' dx m' (jN fs a p).length:=by
 rw [ER]
 refine xo (jv fs a) (λg=>?_) λq g=>?_
 ·rw [hr.no g] at hn
  rw [g];exact hn
 ·obtain ⟨v,g',_⟩:=hr.has g
  rw [g'] at hn
  rw [g];exact hn
theorem NR.put{m:Str->Option Value}{a:Str}(hr:NR X m fs)(U:VR X u p):NR X (λy=>if y=a then some u else m y) (jN fs a p):=λy=>by
 rw [afN]
 by_cases q:y=a
 ·rw [if_pos q];exact .inr ⟨p,u,rfl,if_pos q,U⟩
 ·rw [if_neg q];exact (hr y).imp (λz=>⟨z.1,(if_neg q).trans z.2⟩) λz=>z.elim λp z=>z.elim λv z=>⟨p,v,z.1,(if_neg q).trans z.2.1,z.2.2⟩
theorem set_inv{a:Str}{G:Prop}(h:sO T o a p η=some jt)(k:∀r i c fs ns,o=.ref r i->η.get r i=some (.inst c fs)->jL T.fields c=some ns->o8 ns a=true->kY (fs.length+1)=true->η.set r i (.inst c (jN fs a p))=jt->G):G:=
 jz h λJ e h=>jz h λJ e2 h=>jz h λJ e3 h=>xc h λc h=>xb c λc1 c2=>k _ _ _ _ _ (uW e) (EI e2) e3 c1 c2 (ai h)
theorem RL{a:Str}{Q:Unit->Shared->Prop}(FO:EP w.params T)(h:sO T o a p η=some jt)(rv:VR X v o)(U:VR X u p)(B:Base w X η s.heap)
  (k:∀{h' t},Ext X s no X { s with heap:=h',toks:=t }->Base w X jt h'->Q () { s with heap:=h',toks:=t }):wpAny (model pw w) A (setAttr v a u) Q E s:=
 set_inv h λr i c fs ns e g e3 c1 c2 e'=>EQ (v:=v) B (e▸rv) g λad dx m ob ea ed I lk hn hr=>
  have F:=FO _ _ e3 _ c1
  set_plain B.kf I F.set (afS (s:={ s with toks:=s.toks+1 }) B.kf I F.over (by unfold takerIn;rw [F.find];rfl) F.dict hn (aL (cw (qH c2))) λh' pO hs=>
   have hda:ad≠dx:=λe=>xf (B.inj (e▸ed) ea).2.2
   jP (upd (o':=.inst c (jN fs a p)) (t:=s.toks+1+1) B g ed hs (pO.elim λo z=>z.elim λJ z=>z.elim λJ z=>⟨o,z.1⟩) (.refl X) rfl rfl .inl (λ{v e} q=>(B.tZ q).elim λl z=>z.elim λu z=>nomatch g.symm.trans z.1) ea ⟨dx,_,ed,(hs.2 ad hda).trans I.1,afT pO hr,hr.put U⟩) λE1 B1=>k E1 (e'▸B1))
end
end
section
open PySem.SeqAt
section
variable{w:World}{X:Em}{jt:AH}{s s':Shared}{v u x:Value}{p q o:PV}{T:Tab}{E:Value->Shared->Prop}{i:Nat}
structure JC(w:World)(T:Tab):Prop where
 at_:∀{a l},jL T.t4 a=some l->∀{X η h},Base w X η h->a≠sysModules/\∃kvs,h.DictOf (strKind pw w) a kvs/\KR X kvs l
theorem wh(h:yz p=some j):p=.int j/\j<65536:=jz h λi e h=>xc h λc h=>xb c λc1 c2=>by
 have c1:=of_decide_eq_true c1
 have c2:=of_decide_eq_true c2
 have h:=ai h
 subst h
 exact ⟨by rw [v9 e,gX c1],by omega⟩
theorem item_cases{P:PV->PV->PV->Prop}(h:jR T o q η=some p)(tt:∀l (j:Nat),j<65536->l[j]?=some p->P (.tup l) (.int j) p)(ss:∀s (j:Nat),j<65536->j<s.length->P (.str s) (.int j) (.str (bh #[s.cps.getD j 0])))(dd:∀a l x,jL T.t4 a=some l->jv l x=some p->P (.st (.ref a)) (.str x) p)
  (ll:∀r i l (j:Nat),η.get r i=some (.list l)->j<65536->l[j]?=some p->P (.ref r i) (.int j) p) (sd:∀r i l u x,η.get r i=some (.sd l u)->jv l x=some p->P (.ref r i) (.str x) p):P o q p:=by
 induction o using PV.casesOn with
|tup l=>exact jz h λj e h=>(wh e).1▸tt l j (wh e).2 h
|str s=>exact jz h λj e h=>xc h λc h=>(wh e).1▸ai h▸ss s j (wh e).2 (uU c)
|st y=>
  induction y using Value.casesOn with
 |ref a=>exact jz h λx e h=>jz h λl e2 h=>wc e▸dd a l x e2 h
 |_=>exact xn h
|ref r i=>
  refine jz h λo g h=>?_
  induction o using AO.casesOn with
 |list l=>exact jz h λj e h=>(wh e).1▸ll r i l j g (wh e).2 h
 |sd l u=>exact jz h λx e h=>wc e▸sd r i l u x g h
 |_=>exact xn h
|_=>exact xn h
def afU(s:Shared)(o:Value):Prop:=∃T id,typeLookup (.type T) "__getitem__"=pure (some (.builtin id))/\s.TypeIs o T
theorem Cm{Q:Value->Shared->Prop}(hT:afU s v)(hs:∃ops,subscripted slice false v u=operate ops (getItem v u))(h:wpAny (model pw w) A (getItem v u) Q E s):wpAny (model pw w) A (subscriptTail value slice v u) Q E s:=hT.elim λT z=>z.elim λid z=>hs.elim λops hs=>by
 unfold subscriptTail
 refine wpAny_bind ?_
 rw [getitemInPython_of_ne z.2.not_modules]
 refine wpAny_bind (wpAny_specialOf z.2 z.1 ?_)
 have fin:wpAny (model pw w) A (subscripted slice false v u) (λr RM=>wpAny (model pw w) A (letTemporaryGo value v r >>= λJ=>pure r) Q E RM) E s:=by
  rw [hs]
  exact wpAny_operating (wpAny_mono h (λr RM afV=>wpAny_bind (wpAny_letTemporaryGo (wpAny_pure afV))) λJ J x=>x)
 first
 |exact wpAny_pure (wpAny_bind fin)
 |exact wpAny_bind (wpAny_pure (wpAny_bind fin))
 |exact wpAny_bind fin
theorem RN(h:j<n):seqIndex? (j:Int) n=some j:=by
 simp only [seqIndex?,if_neg (eP.mpr (eM j))]
 rw [if_pos (by simp;omega)]
 rfl
theorem EV(hs:isSlice slice=false):∃ops,subscripted slice false v u=operate ops (getItem v u):=⟨[v,u],by cases slice<;>first|rfl|exact xg hs⟩
theorem afW{Q:Value->Shared->Prop}(DO:JC w T)(hs:isSlice slice=false)(h:jR T o q η=some p)(rv:VR X v o)(t:VR X u q)(B:Base w X η s.heap)(k:∀{v} t,VR X v p->Q v { s with toks:=t }):wpAny (model pw w) A (subscriptTail value slice v u) Q E s:=by
 have dict:∀{a kvs l x p},s.heap.DictOf (strKind pw w) a kvs->KR X kvs l->jv l x=some p->VR X u (.str x)->(∀{v} t,VR X v p->Q v { s with toks:=t })->wpAny (model pw w) A (subscriptTail value slice (.ref a) u) Q E s:=λ{a kvs l x p} D R hp t k=>by
  rw [Jt] at hp
  exact (afs R hp).elim λv z=>Cm ⟨_,_,PySem.slot_dict_getitem.lookup,D.typeIs⟩ (EV hs) (wpAny_getItem_of (vS t λt=>strKind_is pw w x t) D.mapOf z.1 (k _ z.2))
 refine item_cases (P:=λo q p=>VR X v o->VR X u q->(∀{v} t,VR X v p->Q v { s with toks:=t })->wpAny (model pw w) A (subscriptTail value slice v u) Q E s) h ?_ ?_ ?_ ?_ ?_ rv t k
 ·exact λl j hj h r t k=>vU r λa vs n e rs=>vI t λt=>(rs.get h).elim λy z=>Cm ⟨"tuple",_,PySem.F.slot_tuple_getitem.lookup,⟨_,B.fz e,rfl⟩⟩ (EV hs) (PySem.P.getItem_tuple (B.fz e) (by omega) (by omega) (RN (cY.mp z.1).1) (cZ.trans z.1) (k _ z.2))
 ·refine λx j hj hl r t k=>vS r λtk=>vI t λt=>Cm ⟨"str",_,PySem.F.slot_str_getitem.lookup,typeIs_str s x tk⟩ (EV hs) (PySem.P.getItem_str ?_ ?_ (k _ (.str _ _)))
  ·rw [iG]
   exact ⟨decide_eq_false (by omega),decide_eq_false (by omega)⟩
  ·rw [RN hl]
   show x.cps[j]?=_
   rw [dK,d9 hl];rfl
 ·exact λa l x e h r t k=>vT r λJ=>(DO.at_ e B).2.elim λkvs z=>dict z.1 z.2 h t k
 ·exact λr i l j g hj h rv t k=>uV B rv g λa vs n J e rs=>vI t λt=>(rs.get h).elim λy z=>Cm ⟨"list",_,PySem.F.slot_list_getitem.lookup,(oW e).typeIs⟩ (EV hs) (wpAny_getItem_list (oW e) (by omega) (by omega) (cZ.trans z.1) (k _ z.2))
 ·exact λr i l u x g h rv t k=>yI B rv g λa kvs e ea J D R=>dict D.dictOf R h t k
theorem jI.set(U:VR X u p){l:List PV}:∀{vs:List Value} (j:Nat),jI X vs l->jI X (vs.set j u) (l.set j p):=by
 induction l with
|nil=>exact λJ rs=>o7 rs .nil
|cons q l ih=>exact λj rs=>m8 rs λv vs r rs=>match j with
 |0=>.cons U rs
 |j+1=>.cons r (ih j rs)
theorem RP{l l':List PV}{JD:List Value}{a:Addr}{t:Nat}(B:Base w X η s.heap)(g:η.get r i=some (.list l))(ea:X.ad r i false=some a)(ho:h'.get? a=some (rJ JD n))(hs:bY a s.heap h')(rs:jI X JD l'):
  Ext X s no X { s with heap:=h',toks:=t }/\Base w X (η.set r i (.list l')) h':=
 upd B g ea hs ⟨_,ho⟩ (.refl X) rfl rfl .inl (λq=>(B.tZ q).elim λJ z=>z.elim λJ z=>nomatch g.symm.trans z.1) ea ⟨JD,n,ho,rs⟩
theorem JF{o:AO}{l':List (Str×PV)}{a:Addr}{yK:List (Str×Value)}{t:Nat}(B:Base w X η s.heap)(g:η.get r i=some o)(hu:∀{l u},o=.sd l u->u<n)(ea:X.ad r i false=some a)(D:h'.DictOf (strKind pw w) a yK)(hs:bY a s.heap h')(R:KR X yK l'):
  ∃Y,Ext X s no Y { s with heap:=h',toks:=t }/\Base w Y (η.set r i (.sd l' n)) h':=by
 obtain ⟨e',D'⟩:=D.dictAt
 have old:∀{v c},X.ep r i v=some c->v<n:=λq=>(B.tZ q).elim λl z=>z.elim λu z=>av z.2 (hu (ai (g.symm.trans z.1)))
 have le:X.Le (X.note r i n (some e')):=Em.afi λc q=>aM _ (old q)
 refine ⟨_,upd (Y:=X.note r i n (some e')) B g ea hs (D.elim λo z=>z.elim λJ z=>z.elim λJ z=>⟨o,z.1⟩) le rfl rfl (λ{r' i' v c} q=>?_) (λ{v c} q=>⟨l',n,rfl,?_⟩) ea ⟨yK,e',if_pos ⟨rfl,rfl,rfl⟩,D',R.mono le⟩⟩
 ·by_cases z:r'=r/\i'=i/\v=n
  ·exact .inr ⟨z.1,z.2.1⟩
  ·exact .inl ((if_neg z).symm.trans q)
 ·by_cases z:r=r/\i=i/\v=n
  ·exact aq z.2.2
  ·exact aD (old ((if_neg z).symm.trans q))
theorem RQ{o:AO}{l':List (Int×PV)}{a:Addr}{yK:List (Int×Value)}{t:Nat}(B:Base w X η s.heap)(g:η.get r i=some o)(hu:∀{l u},o≠.sd l u)(ea:X.ad r i false=some a)(D:h'.DictOf (intKind pw w) a yK)(hs:bY a s.heap h')(R:KR X yK l'):
  Ext X s no X { s with heap:=h',toks:=t }/\Base w X (η.set r i (.sL l')) h':=
 upd B g ea hs (D.elim λo z=>z.elim λJ z=>z.elim λJ z=>⟨o,z.1⟩) (.refl X) rfl rfl .inl (λq=>(B.tZ q).elim λJ z=>z.elim λJ z=>absurd (ai (g.symm.trans z.1)) hu) ea ⟨yK,D,R⟩
def afX(w:World)(A:Around)(F:Addr->Value->Value->Sem Unit):Prop:=∀{K:Type} [DecidableEq K] {knd:KeyKind pw w K} {kvs:List (K×Value)} {k:K} {d:Addr} {key v:Value} {Q:Unit->Shared->Prop} {E:Value->Shared->Prop} {s:Shared},knd.is k key=true->s.heap.DictOf knd d kvs->
 (∀h',h'.DictOf knd d (stored kvs k v)->bY d s.heap h'->Q () { s with heap:=h',toks:=s.toks+1 })->kvs.length<=sizeLine->wpAny (model pw w) A (F d key v) Q E s
theorem RT{F:Addr->Value->Value->Sem Unit}{o:AO}{d:Addr}{Q:Unit->Shared->Prop}(L:afX w A F)(h:EC o q p=some o')(g:η.get r i=some o)(ea:X.ad r i false=some d)(t:VR X u q)(z:VR X x p)(B:Base w X η s.heap)
  (k:∀{Y h' tk},Ext X s no Y { s with heap:=h',toks:=tk }->Base w Y (η.set r i o') h'->Q () { s with heap:=h',toks:=tk }):wpAny (model pw w) A (F d u x) Q E s:=by
 have nil:s.heap.get? d=some zR->∀{K:Type} [DecidableEq K] {knd:KeyKind pw w K},s.heap.DictOf knd d []:=λe J J J=>(yH e).dictOf
 have ob:=(B.ob g).elim λa y=>ai (y.1.symm.trans ea)▸y.2
 induction o using AO.casesOn with
|sd l u=>
  refine jz h λy e h=>xc h λc h=>ay ob λkvs ob=>ob.elim λe0 ob=>?_
  have R:=ob.2.2
  refine L (EJ e t λt=>strKind_is pw w y t) ob.2.1.dictOf (λh' D hs=>(JF (n:=u+1) (t:=s.toks+1) B g (λe=>by cases e;exact bG _) ea D hs (Rh l y p▸Jv z R ob.2.1.nodup)).elim λY y=>k y.1 (ai h▸y.2)) ?_
  rw [ug R,sizeLine_eq]
  exact ah (cw (qH c)) (dc rfl)
|sL l=>
  refine jz h λy e h=>xc h λc h=>ay ob λkvs ob=>ob.1.dictAt.elim λep D'=>?_
  have R:=ob.2
  refine L (uh e t λt=>intKind_is pw w y t) ob.1 (λh' D hs=>jP (RQ (t:=s.toks+1) B g (λe=>by cases e) ea D hs (afq l y p▸Jv z R D'.nodup)) λE1 B1=>k E1 (ai h▸B1)) ?_
  rw [ug R,sizeLine_eq]
  exact ah (cw (qH c)) (dc rfl)
|jE=>
  induction q using PV.casesOn with
 |str y=>exact L (knd:=strKind pw w) (vS t λt=>strKind_is pw w y t) (nil ob) (λh' D hs=>(JF (n:=0) (t:=s.toks+1) B g (λe=>by cases e) ea D hs (.cons z .nil)).elim λY y=>k y.1 (ai h▸y.2)) (bx _)
 |int y=>exact L (knd:=intKind pw w) (vI t λt=>intKind_is pw w y t) (nil ob) (λh' D hs=>jP (RQ (t:=s.toks+1) B g (λe=>by cases e) ea D hs (.cons z .nil)) λE1 B1=>k E1 (ai h▸B1)) (bx _)
 |_=>exact xn h
|_=>exact xn h
theorem afY{l:Addr}{vs:List Value}{m k:Nat}{j:Int}{t:Tok}{Q:Unit->Shared->Prop}(hl:s.heap.get? l=some (rJ vs m))(hj:j=k)(afZ:k<65536)(hn:k<vs.length)
  (hQ:∀h' n',h'.get? l=some (rJ (vs.set k v) n')->bY l s.heap h'->Q () { s with heap:=h' }):wpAny (model pw w) A (setItem (.ref l) (.int j t) v) Q E s:=by
 have hL:=oW hl
 have hf:iE j=true:=fitsIndex_of (by omega) (by omega)
 clear afZ
 unfold setItem
 try with_reducible refine wpAny_holding ?_
 first|refine wpAny_bind (wpAny_pure ?_)|skip
 refine wpAny_bind (wpAny_sequenceKey hL.typeIs (dc rfl) ?_)
 refine wpAny_bind (wpAny_callSpecial?_slot (name:=ao "__setitem__") hL.typeIs slot_list_setitem (wpAny_call_entry slot_list_setitem hL.typeIs entry_list_setitem ?_ (args_list_setitem _ _ _)))
 show wpAny _ _ (Builtin.List.listSubscript? (.int j t) >>= _) _ _ s
 refine wpAny_bind (wpAny_listSubscript_int hf ?_)
 subst hj
 show wpAny _ _ ((seqItemAt l k >>= λr=>pure (r.map (k,·))) >>= _) _ _ s
 refine wpAny_bind (wpAny_bind (wpAny_seqItemAt hl rfl (wpAny_pure ?_)))
 rw [cZ,aR hn]
 show wpAny _ _ (setSeqItemAt l k v >>= _) _ _ s
 have ho:∃n',(s.heap.update l (bc (·.setIfInBounds k v))).get? l=some ⟨.type "list",none,.seq (vs.toArray.setIfInBounds k v) n',#[]⟩:=⟨_,gm _ hl rfl⟩
 rw [List.setIfInBounds_toArray] at ho
 obtain ⟨n',ho⟩:=ho
 have fin:=hQ _ _ ho (d8 ..)
 refine wpAny_bind (wpAny_setSeqItemAt hl rfl ?_)
 first
 |exact wpAny_bind (wpAny_pure (wpAny_pure ⟨.none,rfl,wpAny_pure fin⟩))
 |exact wpAny_pure ⟨.none,rfl,wpAny_pure fin⟩
theorem af0{Q:Unit->Shared->Prop}(h:nv o q p η=some jt)(rv:VR X v o)(t:VR X u q)(z:VR X x p)(B:Base w X η s.heap)
  (k:∀{Y h' tk},Ext X s no Y { s with heap:=h',toks:=tk }->Base w Y jt h'->Q () { s with heap:=h',toks:=tk }):wpAny (model pw w) A (setItem v u x) Q E s:=by
 refine jz h λc e h=>jz h λo g h=>?_
 have rv:=uW e▸rv
 induction o using AO.casesOn with
|list l=>exact jz h λj e h=>xc h λc1 h=>xb c1 λc1 c2=>uV B rv g λa vs n ea e1 rs=>vI (v:=u) ((wh e).1▸t) λt=>afY e1 rfl (wh e).2 (rs.length▸uU c1) λh' n' ho hs=>jP (RP (t:=s.toks) B g ea ho hs (jI.set z j rs)) λE1 B1=>k E1 (ai h▸B1)
|_=>exact jH h λo' h e=>vR rv λa ea=>RT (F:=λd=>setItem (.ref d)) (λh1 h2 h3 h4=>wpAny_setItem_pairs h1 h2 h3 h4) h g ea t z B λE1 B1=>k E1 (e▸B1)
theorem af1{o:AO}{d:Addr}{Q:Unit->Shared->Prop}(hn:yC (some o)=true)(g:η.get r i=some o)(h:nv (.ref r i) q p η=some jt)(ea:X.ad r i false=some d)(t:VR X u q)(z:VR X x p)(B:Base w X η s.heap)
  (k:∀{Y h' tk},Ext X s no Y { s with heap:=h',toks:=tk }->Base w Y jt h'->Q () { s with heap:=h',toks:=tk }):wpAny (model pw w) A (dictSet d u x) Q E s:=by
 refine jz (show ((η.get r i).bind _)=some jt from h) λapu g' h=>?_
 obtain rfl:=ai (g.symm.trans g')
 refine xo o.lst (λe=>?_) λl e=>?_
 ·rw [e] at h
  exact jH h λo' h e=>RT (F:=dictSet) (λh1 h2 h3 h4=>wpAny_dictSet_pairs h1 h2 h3 h4) h g ea t z B λE1 B1=>k E1 (e▸B1)
 ·cases o<;>first|exact xn e|exact xf hn
end
end
section
open PySem.SeqAt
noncomputable abbrev Vw:=Str->Option PV
noncomputable def Vw.put(ρ:Vw)(x:Str)(v:PV):Vw:=λy=>if y=x then some v else ρ y
structure Fr(X:Em)(sc:Scope)(env:Env)(ρ:Vw)(h:Heap):Prop where
 k:env.scope.kind=.function
 g:env.globals=mainGlobals
 b:env.builtins=builtinsNs
 kd:∀{x k},kindS sc x=some k->env.kindOf x=some k\/k=.free/\env.kindOf x=some .cell
 db:∀{x k},kindS sc x=some k->(x == ("__debug__":Str))=false/\(x == ("__classdict__":Str))=false
 ns:∃m,h.Ns env.locals m/\∀{x p},kindS sc x=some .local->ρ x=some p->∃v,m x=some v/\VR X v p
 ut:¬ X.lq env.locals
 ce:∀{x c},env.cells.lookup x=some c->¬ X.lq c/\c≠env.locals/\∃v,h.IsCell c v
 ap:∀{x y c},env.cells.lookup x=some c->env.cells.lookup y=some c->x=y
 cv:∀{x p},kindS sc x=some .cell\/kindS sc x=some .free->ρ x=some p->∃c v,env.cells.lookup x=some c/\h.IsCell c (some v)/\VR X v p
 cl:∀{x},kindS sc x=some .cell\/kindS sc x=some .free->∃c,env.cells.lookup x=some c
def own(sc:Scope)(env:Env)(a:Addr):Prop:=a=env.locals\/∃x,kindS sc x=some .cell/\env.cells.lookup x=some a
def yL(env:Env)(a:Addr):Prop:=a=env.locals\/∃x,env.cells.lookup x=some a
theorem EW{sc:Scope}{env:Env}{a:Addr}(h:own sc env a):yL env a:=h.imp id λz=>z.elim λx z=>⟨x,z.2⟩
structure uX(A:Around)(n:Nat):Prop where
 h:A.handled=none
 d:A.depth+2*n<1000
 u:A.units+16*n+16<9900
theorem uX.less{m:Nat}(r:uX A n)(h:m<=n):uX A m:=⟨r.h,by have:=r.d;exact ab3 h this,by have:=r.u;exact ab4 h this⟩
theorem uX.cm(r:uX A n):A.units+1<cLine:=by have:=r.u;unfold cLine;exact om6 this
section
variable{w:World}{X Y:Em}{jt:AH}{s s':Shared}{sc:Scope}{env:Env}{ρ Cp:Vw}{h:Heap}{E:Value->Shared->Prop}{v:Value}{p:PV}
theorem yM{c:Addr}{o:Option Value}(x:h.IsCell c o)(k:∀o,h.get? c=some o->h'.get? c=some o):h'.IsCell c o:=x.elim λo z=>⟨o,k o z.1,z.2⟩
theorem JG{c:Addr}{m:Str->Option Value}(x:h.Ns c m)(k:∀o,h.get? c=some o->h'.get? c=some o):h'.Ns c m:=x.elim λo z=>z.elim λes z=>z.elim λep z=>⟨o,es,ep,k o z.1,z.2⟩
theorem Fr.at(F:Fr X sc env ρ h)(le:X.Le Y)(k:∀{a o},yL env a->h.get? a=some o->¬ X.lq a->h'.get? a=some o/\¬ Y.lq a)(sub:∀{x p},Cp x=some p->ρ x=some p):Fr Y sc env Cp h' where
 k:=F.k
 g:=F.g
 b:=F.b
 kd:=F.kd
 db:=F.db
 ns:=F.ns.elim λm z=>⟨m,JG z.1 λo ho=>(k (.inl rfl) ho F.ut).1,λq g=>(z.2 q (sub g)).elim λv z=>⟨v,z.1,z.2.mono le⟩⟩
 ut:=F.ns.elim λm z=>z.1.elim λo z=>z.elim λJ z=>z.elim λJ z=>(k (.inl rfl) z.1 F.ut).2
 ce {x c} q:=(F.ce q).2.2.elim λv z=>z.elim λo y=>
  have K:=k (.inr ⟨x,q⟩) y.1 (F.ce q).1
  ⟨K.2,(F.ce q).2.1,v,o,K.1,y.2⟩
 ap:=F.ap
 cv {x p} q g:=(F.cv q (sub g)).elim λc z=>z.elim λv z=>⟨c,v,z.1,yM z.2.1 λo ho=>(k (.inr ⟨x,z.1⟩) ho (F.ce z.1).1).1,z.2.2.mono le⟩
 cl:=F.cl
theorem Fr.ext(F:Fr X sc env ρ s.heap)(e:Ext X s no Y s'):Fr Y sc env ρ s'.heap:=F.at e.le (λJ ho n=>⟨e.keep _ _ ho n id,e.off ho n⟩) id
theorem Fr.alive(F:Fr X sc env ρ h){a:Addr}(q:yL env a):(∃o,h.get? a=some o)/\¬ X.lq a:=q.elim (λq=>q▸⟨F.ns.elim λm z=>z.1.elim λo z=>z.elim λJ z=>z.elim λJ z=>⟨o,z.1⟩,F.ut⟩) λq=>q.elim λx q=>⟨(F.ce q).2.2.elim λv z=>z.elim λo z=>⟨o,z.1⟩,(F.ce q).1⟩
theorem Ext.one{c:Addr}{F:Addr->Prop}{t:Nat}(hs:bY c s.heap h')(hf:F c)(ha:∃o,h'.get? c=some o):Ext X s F X { s with heap:=h',toks:=t } where
 le:=.refl X
 off _ n:=n
 live a o e _ _:=by
  by_cases z:a=c
  ·exact z▸ha
  ·exact ⟨o,(hs.2 a z).trans e⟩
 keep a o e _ q:=(hs.2 a λz=>q (z▸hf)).trans e
 gens:=rfl
 os:=rfl
theorem af2{x:Str}{Q:Unit->Shared->Prop}(hx:t7 sc x=true)(B:Base w X η s.heap)(F:Fr X sc env ρ s.heap)(rv:VR X v p)(k:∀{s'},Ext X s (own sc env) X s'->Base w X η s'.heap->Fr X sc env (ρ.put x p) s'.heap->Q () s'):wpAny (model pw w) A (storeName env x v) Q E s:=by
 unfold t7 at hx
 generalize hk:kindS sc x=kx at hx
 have put:∀{y q},ρ.put x p y=some q->y=x/\q=p\/y≠x/\ρ y=some q:=λ{y q} h=>by
  by_cases e:y=x
  ·exact .inl ⟨e,(ai ((if_pos e).symm.trans h)).symm⟩
  ·exact .inr ⟨e,(if_neg e).symm.trans h⟩
 have loc:kindS sc x=some .local->wpAny (model pw w) A (storeName env x v) Q E s:=λhk=>F.ns.elim λm z=>by
  refine wpAny_storeName_local ((F.kd hk).elim id λy=>nomatch y.1) z.1 (λh' hn hs=>?_) (by rw [F.k];rfl)
  refine k (Ext.one hs (.inl rfl) (hn.elim λo z=>z.elim λJ z=>z.elim λJ z=>⟨o,z.1⟩)) (B.same F.ut hs) ⟨F.k,F.g,F.b,F.kd,F.db,⟨_,hn,λ{y q} ky g=>?_⟩,F.ut,λq=>⟨(F.ce q).1,(F.ce q).2.1,(F.ce q).2.2.elim λu y=>⟨u,yM y λo=>((hs.2 _ (F.ce q).2.1).trans ·)⟩⟩,F.ap,λ{y q} ky g=>?_,F.cl⟩
  ·exact (put g).elim (λe=>⟨v,if_pos e.1,e.2▸rv⟩) λe=>(z.2 ky e.2).elim λu y=>⟨u,(if_neg e.1).trans y.1,y.2⟩
  ·exact (put g).elim (λe=>ky.elim (λky=>nomatch hk.symm.trans ((congrArg (kindS sc) e.1).symm.trans ky)) λky=>nomatch hk.symm.trans ((congrArg (kindS sc) e.1).symm.trans ky)) λe=>(F.cv ky e.2).elim λc y=>y.elim λu y=>⟨c,u,y.1,yM y.2.1 λo=>((hs.2 _ (F.ce y.1).2.1).trans ·),y.2.2⟩
 have EX:kindS sc x=some .cell->wpAny (model pw w) A (storeName env x v) Q E s:=λhk=>(F.cl (.inl hk)).elim λc hc=>(F.ce hc).2.2.elim λapv af3=>by
  refine wpAny_storeName_cell F.k ((F.kd hk).elim id λy=>y.2) hc af3 λh' hi hs=>?_
  refine k (Ext.one (t:=s.toks) hs (.inr ⟨x,hk,hc⟩) (hi.elim λo z=>⟨o,z.1⟩)) (B.same (F.ce hc).1 hs) ⟨F.k,F.g,F.b,F.kd,F.db,F.ns.elim λm z=>⟨m,JG z.1 λo=>((hs.2 _ (cX (F.ce hc).2.1)).trans ·),λ{y q} ky g=>?_⟩,F.ut,λ{y d} q=>⟨(F.ce q).1,(F.ce q).2.1,?_⟩,F.ap,λ{y q} ky g=>?_,F.cl⟩
  ·exact (put g).elim (λe=>nomatch hk.symm.trans ((congrArg (kindS sc) e.1).symm.trans ky)) λe=>z.2 ky e.2
  ·by_cases e:d=c
   ·exact ⟨_,e▸hi⟩
   ·exact (F.ce q).2.2.elim λu y=>⟨u,yM y λo=>((hs.2 _ e).trans ·)⟩
  ·exact (put g).elim (λe=>⟨c,v,e.1▸hc,hi,e.2▸rv⟩) λe=>(F.cv ky e.2).elim λd y=>y.elim λu y=>⟨d,u,y.1,yM y.2.1 λo=>((hs.2 _ λz=>e.1 (F.ap (y.1.trans (congrArg some z)) hc)).trans ·),y.2.2⟩
 cases kx with
|none=>exact xf hx
|some kx=>cases kx with
 |«local»=>exact loc hk
 |cell=>exact EX hk
 |_=>exact xf hx
end
end
set_option backward.match.sparseCases true
noncomputable abbrev sm(a:Array Nat):Str:=bh a
def RV:Str:=sm #[65,114,103,117,109,101,110,116,69,114,114,111,114]
def EY:Str:=sm #[65,114,114,97,121]
def m9:Str:=sm #[66,97,115,105,99,79,98,106,101,99,116]
def mV:Str:=sm #[66,97,115,105,99,79,98,106,101,99,116,33]
def xE:Str:=sm #[66,97,115,105,99,79,98,106,101,99,116,46]
def jS:Str:=sm #[67,108,97,115,115]
def qI:Str:=sm #[67,111,109,112,97,114,97,98,108,101]
def z0:Str:=sm #[69,110,117,109,101,114,97,98,108,101]
def EZ:Str:=sm #[69,120,99,101,112,116,105,111,110]
def RW:Str:=sm #[70,97,108,115,101,67,108,97,115,115]
def RX:Str:=sm #[72,97,115,104]
def JH:Str:=sm #[73,110,100,101,120,69,114,114,111,114]
def kG:Str:=sm #[73,110,116,101,103,101,114]
def jK:Str:=sm #[75]
def lM:Str:=sm #[75,33]
def kO:Str:=sm #[75,101,114,110,101,108]
def lQ:Str:=sm #[76]
def j6:Str:=sm #[77]
def RZ:Str:=sm #[77,78,77]
def nG:Str:=sm #[77,33]
def lZ:Str:=sm #[77,111,100,117,108,101]
def lJ:Str:=sm #[78]
def Sb:Str:=sm #[78,97,109,101,69,114,114,111,114]
def kH:Str:=sm #[78,105,108,67,108,97,115,115]
def Sd:Str:=sm #[78,111,77,97,116,99,104,105,110,103,80,97,116,116,101,114,110,69,114,114,111,114]
def qJ:Str:=sm #[78,117,109,101,114,105,99]
def kZ:Str:=sm #[79,98,106,101,99,116]
def ni:Str:=sm #[79,98,106,101,99,116,33]
def xF:Str:=sm #[79,98,106,101,99,116,46]
def jU:Str:=sm #[80]
def ku:Str:=sm #[80,33]
def Se:Str:=sm #[82,97,110,103,101]
def Sf:Str:=sm #[82,117,110,116,105,109,101,69,114,114,111,114]
def Sh:Str:=sm #[83,99,114,105,112,116,69,114,114,111,114]
def ul:Str:=sm #[83,116,97,110,100,97,114,100,69,114,114,111,114]
def Si:Str:=sm #[83,116,114,105,110,103]
def JJ:Str:=sm #[83,121,109,98,111,108]
def Sj:Str:=sm #[84,114,117,101,67,108,97,115,115]
def Sn:Str:=sm #[84,121,112,101,69,114,114,111,114]
def Sq:Str:=sm #[95,95,105,110,105,116,95,95]
def Ss:Str:=sm #[95,95,119,114,105,116,101]
def Sv:Str:=sm #[33]
def JK:Str:=sm #[46]
def pW:Str:=sm #[97,98,111,118,101]
def apw:Str:=sm #[97,99,116,111,114,115]
def E9:Str:=sm #[97,102,116,101,114]
def lN:Str:=sm #[97,103,97,105,110]
def sS:Str:=sm #[97,104,101,97,100]
def sU:Str:=sm #[97,112,112,101,110,100]
def Fa:Str:=sm #[97,114,103,115]
def uY:Str:=sm #[97,116,116,97,99,104,101,100]
def Fb:Str:=sm #[98,108,111,99,107]
def Sw:Str:=sm #[98,108,111,99,107,95,103,105,118,101,110,63]
def yN:Str:=sm #[98,111,100,121]
def apx:Str:=sm #[98,111,111,107,115]
def Sx:Str:=sm #[98,111,111,108]
def pG:Str:=sm #[98,117,105,108,116,105,110]
def lB:Str:=sm #[99,97,108,108]
def af4:Str:=sm #[99,97,110,39,116,32,100,101,102,105,110,101,32,115,105,110,103,108,101,116,111,110]
def Sy:Str:=sm #[99,97,116,99,104]
def Sz:Str:=sm #[99,97,116,99,104,101,115]
def wi:Str:=sm #[99,108,97,115,115,95,111,102]
def uZ:Str:=sm #[99,111,100,101]
def JL:Str:=sm #[99,111,110,115,116,95,118,101,114,115,105,111,110]
def Fc:Str:=sm #[99,111,110,115,116,97,110,116,115]
def af5:Str:=sm #[99,111,110,116,114,111,108]
def u0:Str:=sm #[100,101,102,105,110,101,114]
def kT:Str:=sm #[]
def SD:Str:=sm #[101,110,116,114,121]
def z4:Str:=sm #[101,110,118]
def wj:Str:=sm #[101,120,116,101,110,100]
def af6:Str:=sm #[102,97,105,108]
def SJ:Str:=sm #[102,105,98,101,114]
def z5:Str:=sm #[102,105,101,108,100,115]
def nc:Str:=sm #[102,105,114,115,116]
def uo:Str:=sm #[102,105,118,101]
def pX:Str:=sm #[102,114,111,110,116]
def z6:Str:=sm #[102,114,111,122,101,110]
def oq:Str:=sm #[103,101,116]
def JM:Str:=sm #[103,105,118,101,95,111,119,110]
def JN:Str:=sm #[103,108,111,98,97,108,115]
def Fd:Str:=sm #[103,111,110,101]
def ou:Str:=sm #[104,97,115]
def z7:Str:=sm #[104,101,108,100]
def JP:Str:=sm #[104,101,114,101]
def z8:Str:=sm #[105,100,101,110,116]
def Cq:Str:=sm #[105,110,100,101,120]
def uq:Str:=sm #[105,110,105,116,105,97,108,105,122,101]
def SK:Str:=sm #[105,110,105,116,105,97,108,105,122,101,95,99,111,112,121]
def SM:Str:=sm #[105,110,116]
def rW:Str:=sm #[105,115,95,99,108,97,115,115]
def SN:Str:=sm #[105,115,95,108,97,109,98,100,97]
def wk:Str:=sm #[105,115,95,111,119,110]
def Cr:Str:=sm #[105,115,95,114,101,97,100,121]
def SQ:Str:=sm #[105,115,95,119,114,105,116,116,101,110]
def mj:Str:=sm #[107]
def qK:Str:=sm #[107,50]
def kP:Str:=sm #[107,33]
def nP:Str:=sm #[107,101,112,116]
def wo:Str:=sm #[107,105,110,100]
def qv:Str:=sm #[108]
def SR:Str:=sm #[108,97,109,98,100,97]
def JQ:Str:=sm #[108,97,115,116,95,105,100,101,110,116]
def Ct:Str:=sm #[108,97,115,116,95,110,117,109,98,101,114]
def SV:Str:=sm #[108,111,111,112]
def Cu:Str:=sm #[109]
def ur:Str:=sm #[109,97,100,101]
def JR:Str:=sm #[109,97,105,110]
def SW:Str:=sm #[109,97,107,101,95,98,117,105,108,116,105,110]
def Fe:Str:=sm #[109,101,116,104,111,100]
def SY:Str:=sm #[109,101,116,104,111,100,95,109,105,115,115,105,110,103]
def q9:Str:=sm #[109,101,116,104,111,100,115]
def mW:Str:=sm #[109,105,120,101,100]
def apy:Str:=sm #[109,111,100,117,108,101,115]
def JS:Str:=sm #[109,111,115,116]
def Ff:Str:=sm #[109,111,118,101,100]
def nX:Str:=sm #[110,97,109,101]
def SZ:Str:=sm #[110,97,109,101,115]
def lu:Str:=sm #[110,97,116,105,118,101]
def wu:Str:=sm #[110,97,116,105,118,101,115]
def u6:Str:=sm #[110,101,115,116,105,110,103]
def yO:Str:=sm #[110,101,119,95,109,111,100,117,108,101]
def vd:Str:=sm #[110,105,108]
def Tc:Str:=sm #[110,111,100,101]
def nH:Str:=sm #[110,111,110,101]
def mX:Str:=sm #[110,117,109,98,101,114]
def apz:Str:=sm #[111,110,101]
def JT:Str:=sm #[111,117,116]
def z9:Str:=sm #[111,117,116,101,114]
def Aa:Str:=sm #[111,117,116,115,105,100,101]
def nY:Str:=sm #[111,119,110]
def yP:Str:=sm #[111,119,110,95,98,101,104,105,110,100]
def rY:Str:=sm #[111,119,110,95,111,102]
def l0:Str:=sm #[111,119,110,101,114]
def pP:Str:=sm #[112]
def yQ:Str:=sm #[112,97,114,97,109,115]
def rg:Str:=sm #[112,97,114,101,110,116]
def Td:Str:=sm #[112,97,114,116,115]
def Te:Str:=sm #[112,99]
def Tf:Str:=sm #[112,111,112]
def wz:Str:=sm #[112,114,101,108,117,100,101]
def Ti:Str:=sm #[112,114,105,110,116]
def nQ:Str:=sm #[112,114,105,118,97,116,101]
def Fg:Str:=sm #[112,114,111,99]
def mq:Str:=sm #[112,114,111,116,101,99,116,101,100]
def kU:Str:=sm #[112,117,98,108,105,99]
def uv:Str:=sm #[112,117,116,115]
def Tj:Str:=sm #[114,97,105,115,101]
def Fj:Str:=sm #[114,101,97,100]
def uw:Str:=sm #[114,101,97,108,95,99,108,97,115,115]
def Tn:Str:=sm #[114,101,99,101,105,118,101,114]
def To:Str:=sm #[114,101,115,112,111,110,100,95,116,111,95,109,105,115,115,105,110,103,63]
def Fo:Str:=sm #[115,99,111,112,101]
def pY:Str:=sm #[115,101,108,102]
def yR:Str:=sm #[115,101,108,102,95,118,97,108,117,101]
def Tp:Str:=sm #[115,101,110,100,105,110,103]
def af7:Str:=sm #[115,101,113]
def oX:Str:=sm #[115,105,103,104,116]
def rZ:Str:=sm #[115,111,114,116]
def nJ:Str:=sm #[115,112,111,116,115]
def Fp:Str:=sm #[115,116,97,99,107]
def Tq:Str:=sm #[115,116,97,116,101]
def af8:Str:=sm #[115,121,109]
def JV:Str:=sm #[115,121,109,98,111,108,95,105,100,101,110,116,115]
def Tr:Str:=sm #[116,97,98,108,101]
def Tv:Str:=sm #[116,97,103]
def JW:Str:=sm #[116,97,107,101,110]
def JX:Str:=sm #[116,104,105,110,103]
def Tw:Str:=sm #[116,104,114,111,119]
def sV:Str:=sm #[116,114,101,101]
def qw:Str:=sm #[117,110,100,101,102,105,110,101,100]
def JY:Str:=sm #[117,112,100,97,116,101]
def pZ:Str:=sm #[118,97,114]
def sW:Str:=sm #[118,101,114,115,105,111,110]
def Tz:Str:=sm #[119,97,105,116,115]
def TB:Str:=sm #[119,97,121]
def apA:Str:=sm #[119,104,111]
def yS:Str:=sm #[119,111,114,108,100]
def tab:Tab where
 glob:=[((sm #[84,104,105,110,103]),(.st (.ref 38))),
 ((sm #[77,111,100,117,108,101,84,104,105,110,103]),(.st (.ref 226))),
 ((sm #[69,110,116,114,121]),(.st (.ref 254))),
 ((sm #[115,111,114,116,95,111,102]),(.st (.ref 265))),
 ((sm #[115,97,109,101]),(.st (.ref 272))),
 ((sm #[104,97,115,95,116,104,105,110,103]),(.st (.ref 299))),
 ((sm #[111,119,110,95,108,105,110,101]),(.st (.ref 304))),
 ((sm #[110,117,109,98,101,114,101,100]),(.st (.ref 309))),
 ((sm #[109,97,100,101,95,108,105,110,101]),(.st (.ref 314))),
 ((sm #[108,105,110,101,95,111,102]),(.st (.ref 321))),
 ((sm #[80,82,73,86,65,84,69,95,78,65,77,69,83]),(.tup [(.str uq),(.str SK),(.str SY),(.str To)])),
 ((sm #[80,82,73,86,65,84,69,95,75,69,82,78,69,76]),(.tup [(.str uv),(.str Ti),(.str pP),(.str Tj),(.str SV),(.str Sy),(.str Tw),(.str Fg),(.str SR),(.str Sw),(.str EY),(.str kG),(.str Ss)])),
 ((sm #[71,105,118,101,110,69,110,116,114,121]),(.st (.ref 333))),
 ((sm #[115,105,103,104,116,95,111,102]),(.st (.ref 342))),
 ((sm #[103,105,118,101,110,95,101,110,116,114,121]),(.st (.ref 349))),
 ((sm #[101,110,116,114,121,95,97,116]),(.st (.ref 356))),
 ((sm #[102,105,114,115,116,95,101,110,116,114,121]),(.st (.ref 363))),
 ((sm #[102,105,110,100]),(.st (.ref 370))),
 ((sm #[114,97,105,115,101,95,118,101,114,115,105,111,110]),(.st (.ref 377))),
 ((sm #[111,119,110,95,109,111,100,117,108,101]),(.st (.ref 384))),
 ((sm #[99,108,97,115,115,95,97,98,111,118,101]),(.st (.ref 391))),
 ((sm #[109,97,107,101,95,111,119,110]),(.st (.ref 398))),
 ((sm #[99,111,112,105,101,100]),(.st (.ref 405))),
 ((sm #[105,115,95,97]),(.st (.ref 412))),
 ((sm #[114,101,115,112,111,110,100]),(.st (.ref 419))),
 ((sm #[109,97,121,95,115,101,110,100]),(.st (.ref 426))),
 ((sm #[67,97,108,108]),(.st (.ref 451))),
 ((sm #[70,114,97,109,101]),(.st (.ref 486))),
 ((sm #[83,101,110,116]),(.st (.ref 515))),
 ((sm #[105,115,95,104,105,100,100,101,110]),(.st (.ref 526))),
 ((sm #[69,110,118]),(.st (.ref 633))),
 ((sm #[84,97,115,107]),(.st (.ref 655))),
 ((sm #[87,97,108,107,101,114]),(.st (.ref 754))),
 ((sm #[114,101,102,117,115,97,108]),(.st (.ref 765))),
 ((sm #[77,79,68,85,76,69,83]),(.tup [(.str kO),(.str qI),(.str z0)])),
 ((sm #[66,85,73,76,84,73,78,83]),(.st (.ref 767))),
 ((sm #[77,73,88,69,68]),(.st (.ref 770))),
 ((sm #[87,111,114,108,100]),(.st (.ref 1054))),
 ((sm #[95,108,97,119,95,97,98,111,118,101]),(.st (.ref 1065))),
 ((sm #[95,108,97,119,95,119,105,116,104,105,110]),(.st (.ref 1072))),
 ((sm #[95,108,97,119,95,99,111,117,110,116,101,100]),(.st (.ref 1079))),
 ((sm #[95,108,97,119,95,119,104,111]),(.st (.ref 1086))),
 ((sm #[95,108,97,119,95,104,101,97,100,115]),(.st (.ref 1093))),
 ((sm #[95,108,97,119,95,115,101,110,100,101,114,115]),(.st (.ref 1100))),
 ((sm #[95,108,97,119,95,119,101,108,108]),(.st (.ref 1107))),
 ((sm #[95,108,97,119,95,100,114,97,119]),(.st (.ref 1114))),
 ((sm #[95,108,97,119,95,115,105,110,103,108,101]),(.st (.ref 1121))),
 ((sm #[95,108,97,119,95,109,105,120,101,100]),(.st (.ref 1126))),
 ((sm #[95,108,97,119,95,101,110,116,114,105,101,115]),(.st (.ref 1133))),
 ((sm #[95,108,97,119,95,98,111,111,107,115]),(.st (.ref 1140))),
 ((sm #[95,108,97,119,95,109,97,100,101]),(.st (.ref 1145))),
 ((sm #[95,108,97,119,95,99,105,114,99,108,101]),(.st (.ref 1152))),
 ((sm #[95,108,97,119,95,108,105,110,101]),(.st (.ref 1157))),
 ((sm #[95,108,97,119,95,102,111,117,110,100]),(.st (.ref 1162))),
 ((sm #[95,108,97,119,95,97,103,114,101,101,100]),(.st (.ref 1167))),
 ((sm #[108,97,119]),(.st (.ref 1172))),
 ((sm #[97,98,115]),(.st (.builtin "abs"))),
 ((sm #[100,105,99,116]),(.st (.type "dict"))),
 (SM,(.st (.type "int"))),
 ((sm #[105,115,105,110,115,116,97,110,99,101]),(.st (.builtin "isinstance"))),
 ((sm #[108,101,110]),(.st (.builtin "len"))),
 ((sm #[108,105,115,116]),(.st (.type "list"))),
 ((sm #[114,97,110,103,101]),(.st (.type "range"))),
 ((sm #[114,101,118,101,114,115,101,100]),(.st (.type "reversed"))),
 ((sm #[115,111,114,116,101,100]),(.st (.builtin "sorted"))),
 (Sx,(.st (.type "bool"))),
 ((sm #[115,116,114]),(.st (.type "str")))]
 pV:=[(35,⟨(mA 4 0),[]⟩),
 (216,⟨(mA 12 0),[.none,(.bool false),.none,.none]⟩),
 (223,⟨(mA 12 1),[]⟩),
 (243,⟨(mA 13 0),[.none,.none,(.str kU)]⟩),
 (251,⟨(mA 13 1),[.none]⟩),
 (265,⟨(dA 14),[]⟩),
 (272,⟨(dA 15),[]⟩),
 (299,⟨(dA 20),[]⟩),
 (304,⟨(dA 21),[]⟩),
 (309,⟨(dA 22),[]⟩),
 (314,⟨(dA 23),[]⟩),
 (321,⟨(dA 24),[]⟩),
 (342,⟨(dA 28),[]⟩),
 (349,⟨(dA 29),[]⟩),
 (356,⟨(dA 30),[]⟩),
 (363,⟨(dA 31),[]⟩),
 (370,⟨(dA 32),[]⟩),
 (377,⟨(dA 33),[]⟩),
 (384,⟨(dA 34),[]⟩),
 (391,⟨(dA 35),[]⟩),
 (398,⟨(dA 36),[]⟩),
 (405,⟨(dA 37),[]⟩),
 (412,⟨(dA 38),[]⟩),
 (419,⟨(dA 39),[]⟩),
 (426,⟨(dA 40),[]⟩),
 (441,⟨(mA 42 0),[(.bool false)]⟩),
 (469,⟨(mA 43 0),[]⟩),
 (505,⟨(mA 45 0),[.none,(.str lB),.none,.none]⟩),
 (526,⟨(dA 46),[]⟩),
 (609,⟨(mA 53 0),[]⟩),
 (652,⟨(mA 54 0),[.none]⟩),
 (673,⟨(mA 55 0),[]⟩),
 (765,⟨(dA 57),[]⟩),
 (793,⟨(mA 63 0),[.none,.none,(.int (20000))]⟩),
 (814,⟨(mA 63 3),[]⟩),
 (835,⟨(mA 63 6),[]⟩),
 (840,⟨(mA 63 7),[]⟩),
 (847,⟨(mA 63 8),[]⟩),
 (855,⟨(mA 63 9),[.none,.none,.none]⟩),
 (862,⟨(mA 63 10),[]⟩),
 (869,⟨(mA 63 11),[]⟩),
 (876,⟨(mA 63 12),[]⟩),
 (890,⟨(mA 63 14),[]⟩),
 (1065,⟨(dA 65),[]⟩),
 (1072,⟨(dA 66),[]⟩),
 (1079,⟨(dA 67),[]⟩),
 (1086,⟨(dA 68),[]⟩),
 (1093,⟨(dA 69),[]⟩),
 (1100,⟨(dA 70),[]⟩),
 (1107,⟨(dA 71),[]⟩),
 (1114,⟨(dA 72),[]⟩),
 (1121,⟨(dA 73),[]⟩),
 (1126,⟨(dA 74),[]⟩),
 (1133,⟨(dA 75),[]⟩),
 (1140,⟨(dA 76),[]⟩),
 (1145,⟨(dA 77),[]⟩),
 (1152,⟨(dA 78),[]⟩),
 (1157,⟨(dA 79),[]⟩),
 (1162,⟨(dA 80),[]⟩),
 (1167,⟨(dA 81),[]⟩),
 (1172,⟨(dA 82),[]⟩)]
 oU:=[(38,35),
 (226,216),
 (254,243),
 (333,243),
 (451,441),
 (486,469),
 (515,505),
 (633,609),
 (655,652),
 (754,673),
 (1054,793)]
 meths:=[(38,[(Sq,35)]),
 (226,[(wk,223)]),
 (254,[(Ff,251)]),
 (333,[(Ff,251)]),
 (451,[]),
 (486,[]),
 (515,[]),
 (633,[]),
 (655,[]),
 (754,[]),
 (1054,[(mX,814),(pG,835),(SW,840),(JM,847),(yO,855),(wi,862),(rY,869),(yP,876),(uw,890)])]
 fields:=[(38,[z5,z6,z8,mX,nY,l0]),
 (226,[sS,uY,Fc,rW,nP,q9,mW,nX,lu,z9,rg,z5,z6,z8,mX,nY,l0]),
 (254,[yN,uZ,u0,nX,u6,l0,yQ,oX,rZ]),
 (333,[yN,uZ,u0,nX,u6,l0,yQ,oX,rZ]),
 (451,[Fa,Fb,u0,SD,SN,u6,mX,Fo,yR,oX,rZ]),
 (486,[E9,lB,uZ,z7,mX,Te,Fg,Fo,oX,Fp,Tv,Tz]),
 (515,[E9,Fa,Fb,z7,SQ,wo,nX,Tn]),
 (633,[lB,SZ,z9]),
 (655,[z4,z7,nP,wo,Tc,mX,Tq]),
 (754,[Sz,SJ,Fp,Tr,TB,yS]),
 (1054,[JL,JN,JP,Cr,JQ,Ct,ur,JR,JS,wu,JT,wz,Fj,JV,JW,sW])]
 bases:=[(38,[38]),
 (226,[226,38]),
 (254,[254]),
 (333,[333,254]),
 (451,[451]),
 (486,[486]),
 (515,[515]),
 (633,[633]),
 (655,[655]),
 (754,[754]),
 (1054,[1054])]
 t4:=[(767,[(m9,.none),(kZ,(.str m9)),(lZ,(.str kZ)),(jS,(.str lZ)),(kO,.none),(qI,.none),(z0,.none),(kH,(.str kZ)),(Sj,(.str kZ)),(RW,(.str kZ)),(qJ,(.str kZ)),(kG,(.str qJ)),(Si,(.str kZ)),(JJ,(.str kZ)),(EY,(.str kZ)),(RX,(.str kZ)),(Se,(.str kZ)),((sm #[80,114,111,99]),(.str kZ)),((sm #[70,105,98,101,114]),(.str kZ)),(EZ,(.str kZ)),(Sh,(.str EZ)),((sm #[78,111,116,73,109,112,108,101,109,101,110,116,101,100,69,114,114,111,114]),(.str Sh)),((sm #[83,121,115,116,101,109,83,116,97,99,107,69,114,114,111,114]),(.str EZ)),(ul,(.str EZ)),(RV,(.str ul)),((sm #[85,110,99,97,117,103,104,116,84,104,114,111,119,69,114,114,111,114]),(.str RV)),((sm #[70,105,98,101,114,69,114,114,111,114]),(.str ul)),(JH,(.str ul)),((sm #[75,101,121,69,114,114,111,114]),(.str JH)),((sm #[83,116,111,112,73,116,101,114,97,116,105,111,110]),(.str JH)),((sm #[76,111,99,97,108,74,117,109,112,69,114,114,111,114]),(.str ul)),(Sb,(.str ul)),((sm #[78,111,77,101,116,104,111,100,69,114,114,111,114]),(.str Sb)),(Sd,(.str ul)),((sm #[78,111,77,97,116,99,104,105,110,103,80,97,116,116,101,114,110,75,101,121,69,114,114,111,114]),(.str Sd)),((sm #[82,97,110,103,101,69,114,114,111,114]),(.str ul)),(Sf,(.str ul)),((sm #[70,114,111,122,101,110,69,114,114,111,114]),(.str Sf)),(Sn,(.str ul)),((sm #[90,101,114,111,68,105,118,105,115,105,111,110,69,114,114,111,114]),(.str ul))]),
 (770,[(kZ,(.tup [(.str kO)])),(qJ,(.tup [(.str qI)])),(Si,(.tup [(.str qI)])),(JJ,(.tup [(.str qI)])),(EY,(.tup [(.str z0)])),(RX,(.tup [(.str z0)])),(Se,(.tup [(.str z0)]))])]
set_option backward.match.sparseCases false
structure JZ(P:Params)(c:Addr)(name:Str)(f:Addr):Prop where
 ga:findIn (Kf P) (.ref c) "__getattribute__"=some (some (.builtin "object.__getattribute__"))
 gk:findIn (Kf P) (.ref c) "__getattr__"=some none
 fnd:findIn (Kf P) (.ref c) name=some (some (.ref f))
 ty:typeIn (Kf P) (.ref f)=some (.type "function")
 sp:specialIn (Kf P) (.ref c) "__getattribute__"=some (some (.builtin "type.__getattribute__"))
 rd:readsIn (Kf P) c (.type "type")=true
 fc:findCls (Kf P) (.ref c) (.type "type") name=some (.val (.ref f))
 kp:keepIn (Kf P) (.ref f)=true
 lt:f<1173
structure af9(P:Params)(c:Addr):Prop where
 hg:plainGet (Kf P) c "__class__"=true
 hd:hasDictIn (Kf P) c=true
 ha:findIn (Kf P) (.ref c) "__class__"=some (some (.builtin "object.__class__"))
 hn:specialIn (Kf P) (.builtin "object.__class__") "__get__"=some (some (.builtin "getset_descriptor.__get__"))
 ht:takesIn (Kf P) (.builtin "object.__class__")=some true
 hm:mroIn (Kf P) c (.type "object")=some true
 pb:kitOne (Kf P) (.ref c) (.type "bool")=some false
 pi:kitOne (Kf P) (.ref c) (.type "int")=some false
 ps:kitOne (Kf P) (.ref c) (.type "str")=some false
 cl:((clsIn (Kf P) c).isSome && typeIn (Kf P) (.ref c) == some (.type "type"))=true
structure Fq(P:Params)(T:Tab):Prop where
 c:∀c bs,jL T.bases c=some bs->af9 P c
 m:∀c bs C Cv,jL T.bases c=some bs->jL T.bases C=some Cv->kitOne (Kf P) (.ref c) (.ref C)=some (bs.contains C)
structure J0(p:Arguments):Prop where
 po:p.posonlyargs=[]
 ko:p.kwonlyargs=[]
 va:p.vararg=none
 kw:p.kwarg=none
 nd:(p.args.map (·.arg)).Nodup
structure FnAt(w:World)(a:Addr)(fi:rR)(o:Obj)(fd:FuncData)(dv:List Value):Prop where
 ob:(objs w.params)[a]?=some o
 da:o.data=.func fd
 bo:fd.body=.stmts (bodyOf fi.st)
 sc:fd.scope=uc fi.st
 pr:fd.params.args.map (·.arg)=rV fi.st
 po:J0 fd.params
 cl:fd.closure=[]
 gl:fd.globals=mainGlobals
 bi:fd.builtins=builtinsNs
 co:fd.scope.isCoroutine=false
 ge:fd.scope.isGenerator=false
 kd:fd.scope.kind=.function
 ok:Q6 fd.scope=true
 bn:∀x∈rV fi.st,fd.scope.names.lookup x=some .local\/fd.scope.names.lookup x=some .cell
 cd:∃c oc vs t,fd.code=.ref c/\(objs w.params)[c]?=some oc/\oc.data=.fields vs/\vs[1]?=some (.str fd.qualname t)
 df:(fd.defaults=.none/\dv=[])\/∃d od m,fd.defaults=.ref d/\(objs w.params)[d]?=some od/\od.data=.seq dv.toArray m
 dl:dv.length<=(fd.params.args.map (·.arg)).length
 dr:∀X η h,Base w X η h->jI X dv fi.dflt
structure TF(P:Params)(a fI:Addr):Prop where
 ms:makesIn (Kf P) a=true
 fi:findIn (Kf P) (.ref a) "__init__"=some (some (.ref fI))
 ty:typeIn (Kf P) (.ref fI)=some (.type "function")
def Cw(w:World):Prop:=∀{A:Around} {X:Em} {η:AH} {s:Shared} {l l':List PV} {a:Addr} {vs:List Value} {n:Nat},A.handled=none->A.units+20<9900->s.heap.get? a=some (rJ vs n)->jI X vs l->bA 2 l.length=true->bA l.length 60=true->xA l=some l'->Base w X η s.heap->
 ∀{E:Value->Shared->Prop} {Q:Value->Shared->Prop},(∀{v s'},GE w X s (η.add (.list l')) (.ref η.reg η.ju) v s'->Q v s')->wpAny (model pw w) A (call (.builtin "sorted") [.ref a]) Q E s
structure Good(w:World)(T:Tab):Prop where
 t:∀{x p},jv T.glob x=some p->∀{X η h},Base w X η h->∃v,VR X v p/\∃mg mb,h.Ns mainGlobals mg/\h.Ns builtinsNs mb/\(mg x=some v\/(mg x=none/\mb x=some v))
 d:JC w T
 f:EP w.params T
 m:∀{c ms},jL T.meths c=some ms->∀{name f},jv ms name=some f->JZ w.params c name f
 k:∀{a fi},jL T.pV a=some fi->keepIn (Kf w.params) (.ref a)=true
 ki:∀{a fi},jL T.oU a=some fi->keepIn (Kf w.params) (.ref a)=true
 fn:∀{a fi},jL T.pV a=some fi->∃o fd dv,FnAt w a fi o fd dv
 nl:∀{X η h},Base w X η h->h.NoLimit
 i:∀{a fI},jL T.oU a=some fI->TF w.params a fI
 b:Fq w.params T
 s:Cw w
set_option genCtorIdx false
inductive Tg where
|one (i:Nat)
|many (l:List Nat)
mutual
inductive X where
|k (v:PV)
|v (i:Nat)
|bin (op:Operator) (a b:X)
|no (a:X)
|wA (c:Bool) (a b:X)
|sX (t a b:X)
|jE
|dict (ps:Ps)
|list (es:Xs)
|tup (es:Xs)
|ve (elt:X) (tg:Tg) (it:X) (ifs:Xs) (fr ls:List Nat)
|Fs (k v:X) (tg:Tg) (it:X) (ifs:Xs) (fr ls:List Nat)
|cmp (op:CmpOp) (a b:X)
|mr (o:X) (nm:Str) (as:Xs)
|call (f:PV) (as:Xs)
|attr (o:X) (a:Str)
|take (o e:X)
|rev (o:X)
|item (o i:X)
inductive Xs where
|nil
|cons (x:X) (r:Xs)
inductive Ps where
|nil
|cons (k v:X) (r:Ps)
end
inductive Tt where
|loc (i:Nat)
|nj (o:X) (a:Str)
|nZ (o i:X)
mutual
inductive St where
|expr (e:X)
|asg (t:Tt) (e:X)
|vf (ts:List Tt) (e:X)
|aug (o:X) (a:Str) (e:X)
|ite (t:X) (a b:jF)
|ri (t:X) (b:jF)
|for (rv:Bool) (tg:Tg) (it:X) (b:jF)
|ret (e:X)
|Ft
|cont
inductive jF where
|nil
|cons (s:St) (r:jF)
end
set_option genCtorIdx true
noncomputable abbrev Sl:=List (Option PV)
noncomputable def look:Sl->Nat->Option PV
|[],_=>none
|v::_,0=>v
|_::r,i+1=>look r i
noncomputable def put:Sl->Nat->Option PV->Sl
|[],_,_=>[]
|_::r,0,v=>v::r
|u::r,i+1,v=>u::put r i v
def sY:List Nat->List PV->Sl->Option Sl
|[],[],e=>some e
|i::is,v::vs,e=>sY is vs (put e i (some v))
|_,_,_=>none
def Tg.bind:Tg->PV->Sl->Option Sl
|.one i,v,e=>some (put e i (some v))
|.many l,.tup vs,e=>sY l vs e
|_,_,_=>none
def clear(e:Sl):List Nat->Sl
|[]=>e
|i::r=>clear (put e i none) r
def allB(e:Sl)(l:List Nat):Bool:=l.all λi=>(look e i).isSome
noncomputable abbrev MK:List Addr:=[1140,1145]
def jw(n:Nat)(f:PV)(vs:List PV)(η:AH)(Q:PV->AH->Prop):Prop:=∀⦃w⦄,Good w tab->∀{X s A g us} {R:Value->Shared->Prop} {E:Value->Shared->Prop},Base w X η s.heap->VR X g f->jI X us vs->uX A n->
 (∀{v s' Y p jt},Ext X s no Y s'->Base w Y jt s'.heap->VR Y v p->Q p jt->R v s')->wpAny (model pw w) A (PySem.call g us) R E s
theorem jw.mono{k:Nat}{f:PV}{vs:List PV}{P Q:PV->AH->Prop}(h:jw k f vs η P)(m:∀v η,P v η->Q v η):jw k f vs η Q:=λJ G J J J J J J J B r rs rm k=>h G B r rs rm λe b r q=>k e b r (m _ _ q)
theorem jw.le{k k':Nat}{f:PV}{vs:List PV}{Q:PV->AH->Prop}(h:jw k f vs η Q)(hk:k<=k'):jw k' f vs η Q:=λJ G J J J J J J J B r rs rm q=>h G B r rs (rm.less hk) q
def WM(k:Nat)(m:MS)(nm:Str)(vs:List PV)(η:AH)(Q:PV->AH->Prop):Prop:=match m with
|.fn f o=>match o with
 |some o=>jw k (.st (.ref f)) (o::vs) η Q
 |none=>jw k (.st (.ref f)) vs η Q
|m=>∃v jt,ua tab m nm vs η=some (v,jt)/\Q v jt
def pH(TI:Sl->AH->(Bool->AH->Prop)->Prop)(EM:Sl->AH->(AH->Prop)->Prop)(tg:Tg)(S:Src):Nat->Nat->Sl->AH->(AH->Prop)->Prop
|0,_,_,_,_=>False
|n+1,i,e,η,Q=>∃o,S.at i η=some o/\match o with
 |none=>Q η
 |some v=>∃e',tg.bind v e=some e'/\TI e' η λb η=>(b=true->EM e' η λη=>pH TI EM tg S n (i+1) e' η Q)/\(b=false->pH TI EM tg S n (i+1) e' η Q)
mutual
def W(k:Nat):X->Sl->AH->(PV->AH->Prop)->Prop
|.k v,e,η,Q=>Q v η
|.v i,e,η,Q=>∃v,look e i=some v/\Q v η
|.bin op a b,e,η,Q=>W k a e η λx η=>W k b e η λy η=>∃v jt,qZ op x y η=some (v,jt)/\Q v jt
|.no a,e,η,Q=>W k a e η λx η=>∃b,ng x η=some b/\Q (.bool (!b)) η
|.wA c a b,e,η,Q=>W k a e η λx η=>∃t,ng x η=some t/\(t=c->W k b e η Q)/\(t=!c->Q x η)
|.sX t a b,e,η,Q=>W k t e η λu η=>∃c,ng u η=some c/\(c=true->W k a e η Q)/\(c=false->W k b e η Q)
|.jE,e,η,Q=>Q (.ref η.reg η.ju) (η.add .jE)
|.dict ps,e,η,Q=>WP k ps e η [] λl η=>Q (.ref η.reg η.ju) (η.add (.sd l 0))
|.list es,e,η,Q=>WL k es e η λvs η=>kY vs.length=true/\Q (.ref η.reg η.ju) (η.add (.list vs))
|.tup es,e,η,Q=>WL k es e η λvs η=>kY vs.length=true/\Q (.tup vs) η
|.ve elt tg it ifs fr ls,e,η,Q=>W k it e η λiv η=>∃S,t6 iv η=some S/\allB e fr=true/\pH (TL k ifs) (λe' jt Q'=>W k elt e' jt λv lC=>∃jD,xt η.reg η.ju v lC=some jD/\Q' jD) tg S (S.len η+1) 0 (clear e ls) (η.add (.list [])) (λjt=>Q (.ref η.reg η.ju) jt)
|.Fs key val tg it ifs fr ls,e,η,Q=>W k it e η λiv η=>∃S,t6 iv η=some S/\allB e fr=true/\pH (TL k ifs) (λe' jt Q'=>W k key e' jt λkv lC=>W k val e' lC λv jD=>yC (jD.get η.reg η.ju)=true/\∃jV,nv (.ref η.reg η.ju) kv v jD=some jV/\Q' jV) tg S (S.len η+1) 0 (clear e ls) (η.add .jE) (λjt=>Q (.ref η.reg η.ju) jt)
|.cmp op a b,e,η,Q=>W k a e η λx η=>W k b e η λy η=>∃c,nh op x y η=some c/\Q (.bool c) η
|.mr o nm as,e,η,Q=>W k o e η λov η=>∃m,pN tab ov nm η=some m/\WL k as e η λvs η=>WM k m nm vs η Q
|.call f as,e,η,Q=>WL k as e η λvs η=>jw k f vs η Q
|.attr o a,e,η,Q=>W k o e η λov η=>∃v,kE tab ov a η=some v/\Q v η
|.take o x,e,η,Q=>W k o e η λov η=>W k x e η λkv η=>∃v jt,EF ov kv η=some (v,jt)/\Q v jt
|.rev o,e,η,Q=>W k o e η λov η=>∃v jt,Jo ov η=some (v,jt)/\Q v jt
|.item o i,e,η,Q=>W k o e η λov η=>W k i e η λkv η=>∃v,jR tab ov kv η=some v/\Q v η
def WL(k:Nat):Xs->Sl->AH->(List PV->AH->Prop)->Prop
|.nil,e,η,Q=>Q [] η
|.cons x r,e,η,Q=>W k x e η λv η=>WL k r e η λvs η=>Q (v::vs) η
def WP(k:Nat):Ps->Sl->AH->List (Str×PV)->(List (Str×PV)->AH->Prop)->Prop
|.nil,e,η,acc,Q=>Q acc η
|.cons a b r,e,η,acc,Q=>W k a e η λkv η=>∃x,kv=.str x/\W k b e η λv η=>WP k r e η (jN acc x v) Q
def TL(k:Nat):Xs->Sl->AH->(Bool->AH->Prop)->Prop
|.nil,e,η,Q=>Q true η
|.cons x r,e,η,Q=>W k x e η λu η=>∃b,ng u η=some b/\(b=true->TL k r e η Q)/\(b=false->Q false η)
end
def o9(B:Sl->AH->(Fl->Sl->AH->Prop)->Prop)(tg:Tg)(S:Src):Nat->Nat->Sl->AH->(Fl->Sl->AH->Prop)->Prop
|0,_,_,_,_=>False
|n+1,i,e,η,Q=>∃o,S.at i η=some o/\match o with
 |none=>Q .next e η
 |some v=>∃e',tg.bind v e=some e'/\B e' η λf e η=>match f with
  |.ret v=>Q (.ret v) e η
  |_=>o9 B tg S n (i+1) e η Q
def qL(t:Sl->AH->(PV->AH->Prop)->Prop)(B:Sl->AH->(Fl->Sl->AH->Prop)->Prop):Nat->Sl->AH->(Fl->Sl->AH->Prop)->Prop
|0,_,_,_=>False
|w+1,e,η,Q=>t e η λu η=>∃c,ng u η=some c/\(c=true->B e η λf e η=>match f with
  |.ret v=>Q (.ret v) e η
  |_=>qL t B w e η Q)/\(c=false->Q .next e η)
def Wt(k:Nat)(t:Tt)(v:PV)(e:Sl)(η:AH)(Q:Sl->AH->Prop):Prop:=match t with
|.loc i=>Q (put e i (some v)) η
|.nj o a=>W k o e η λov η=>∃jt,sO tab ov a v η=some jt/\Q e jt
|.nZ o i=>W k o e η λov η=>W k i e η λkv η=>∃jt,nv ov kv v η=some jt/\Q e jt
def ux(k:Nat):List Tt->List PV->Sl->AH->(Sl->AH->Prop)->Prop
|[],[],e,η,Q=>Q e η
|t::ts,v::vs,e,η,Q=>Wt k t v e η λe η=>ux k ts vs e η Q
|_,_,_,_,_=>False
mutual
def W1(k:Nat):St->Nat->Sl->AH->(Fl->Sl->AH->Prop)->Prop
|.expr x,w,e,η,Q=>W k x e η λv η=>v=.none/\Q .next e η
|.asg t x,w,e,η,Q=>W k x e η λv η=>Wt k t v e η (Q .next)
|.vf ts x,w,e,η,Q=>W k x e η λv η=>∃l,v=.tup l/\l.length=ts.length/\ux k ts l e η (Q .next)
|.aug o a x,w,e,η,Q=>W k o e η λov η=>∃i,kE tab ov a η=some (.int i)/\W k x e η λv η=>∃j,v=.int j/\∃jt,sO tab ov a (.int (i+j)) η=some jt/\Q .next e jt
|.ite t a b,w,e,η,Q=>W k t e η λu η=>∃c,ng u η=some c/\(c=true->WS k a w e η Q)/\(c=false->WS k b w e η Q)
|.ri t b,w,e,η,Q=>qL (λe η Q=>W k t e η Q) (λe η Q=>WS k b 0 e η Q) w e η Q
|.for rv tg it b,w,e,η,Q=>W k it e η λv η=>∃S,rU rv v η=some S/\o9 (λe η Q=>WS k b w e η Q) tg S (S.len η+1) 0 e η Q
|.ret x,w,e,η,Q=>W k x e η λv η=>Q (.ret v) e η
|.Ft,w,e,η,Q=>Q (.ret .none) e η
|.cont,w,e,η,Q=>Q .cont e η
def WS(k:Nat):jF->Nat->Sl->AH->(Fl->Sl->AH->Prop)->Prop
|.nil,w,e,η,Q=>Q .next e η
|.cons s r,w,e,η,Q=>W1 k s w e η λf e η=>match f with
 |.next=>WS k r w e η Q
 |.cont=>Q .cont e η
 |.ret v=>Q (.ret v) e η
end
noncomputable abbrev Sm:=List (Str×Nat)
def xG(m:Sm):Bool:=m.all λp=>m.all λq=>!aj p.2 q.2 || sq p.1 q.1
def Ab(T:Tab)(sc:Scope)(m:Sm)(x:Str):Option X:=(kindS sc x).bind λk=>match k with
|.local=>(jv m x).map .v
|.cell=>(jv m x).map .v
|.free=>(jv m x).map .v
|.globalImplicit=>(jv T.glob x).map .k
|_=>none
def xH(sc:Scope)(m:Sm):List Expr->Option (List Nat)
|[]=>some []
|e::r=>(B7 e).bind λx=>cond (t7 sc x) ((jv m x).bind λi=>(xH sc m r).map (i::·)) none
def wB(sc:Scope)(m:Sm)(e:Expr):Option Tg:=match B8 e with
|some ts=>(xH sc m ts).map .many
|none=>(B7 e).bind λx=>cond (t7 sc x) ((jv m x).map .one) none
noncomputable def oM(f:Expr->Option X):List Expr->Option Xs
|[]=>some .nil
|e::r=>(f e).bind λx=>(oM f r).map (.cons x)
noncomputable def Ac(f:Expr->Option X):List (Option Expr)->List Expr->Option Ps
|[],[]=>some .nil
|a::ks,b::vs=>a.bind λa=>(f a).bind λx=>(f b).bind λy=>(Ac f ks vs).map (.cons x y)
|_,_=>none
noncomputable def J1:BoolOp->Bool
|.And=>true
|.Or=>false
def cBool(f:Expr->Option X)(op:BoolOp):List Expr->Option X
|[]=>none
|e::r=>match r with
 |[]=>f e
 |_::_=>(f e).bind λa=>(cBool f op r).map (.wA (J1 op) a)
noncomputable def J2(m:Sm):Nat:=m.foldr (λp n=>max (p.2+1) n) 0
def xJ(sc:Scope)(m:Sm):Nat->List (Str×NameKind)->Option (Sm×List Nat×List Nat)
|_,[]=>some ([],[],[])
|b,p::r=>cond (decide (p.2=.local)) ((xJ sc m (b+1) r).map λq=>((p.1,b)::q.1,b::q.2.1,q.2.2))
  (cond (decide (p.2=.free)) ((jv m p.1).bind λi=>(kindS sc p.1).bind λk=>cond (decide (k=.cell) || decide (k=.free)) ((xJ sc m b r).map λq=>((p.1,i)::q.1,q.2.1,i::q.2.2)) none) (xJ sc m b r))
abbrev Cf:=Scope->Sm->Expr->Option X
noncomputable def aga:List Comprehension->Option Comprehension
|[g]=>cond (decide (g.is_async=0)) (some g) none
|_=>none
def J3(f t:Cf)(sc:Scope)(m:Sm)(gs:List Comprehension)(jG:Scope)(mk:Sm->Tg->X->Xs->List Nat->List Nat->Option X):Option X:=(aga gs).bind λg=>
 cond (ED jG && B6 g.iter) ((f sc m g.iter).bind λit=>(xJ sc m (J2 m) jG.names).bind λp=>cond (xG p.1) ((wB jG p.1 g.target).bind λtg=>(oM (t jG p.1) g.ifs).bind λifs=>mk p.1 tg it ifs p.2.2 p.2.1) none) none
def J4(f t:Cf)(sc:Scope)(m:Sm)(elt:Expr)(gs:List Comprehension)(jG:Scope):Option X:=J3 f t sc m gs jG λm' tg it ifs fr ls=>(f jG m' elt).map λx=>.ve x tg it ifs fr ls
def J5(f t:Cf)(sc:Scope)(m:Sm)(key val:Expr)(gs:List Comprehension)(jG:Scope):Option X:=J3 f t sc m gs jG λm' tg it ifs fr ls=>(f jG m' key).bind λa=>(f jG m' val).map λb=>.Fs a b tg it ifs fr ls
noncomputable def xK:X->Option PV
|.k v=>some v
|_=>none
noncomputable def TG:UnaryOp->Bool
|.Not=>true
|_=>false
def sZ(nm:Str)(n:Nat):Bool:=cond (sq nm sP || sq nm sQ || sq nm t8 || sq nm t9) (aj n 1) (cond (sq nm sR) (aj n 0) (cond (sq nm pF) (aj n 1 || aj n 2) true))
def TH(T:Tab)(f:Cf)(sc:Scope)(m:Sm)(g:Expr)(args:List Expr)(pos:Pos):Option X:=match g with
|.Attribute o name apos=>cond (zX o && aj apos.endLine pos.line && aY args.length 20 && sZ name args.length) ((f sc m o).bind λo=>(oM (f sc m) args).map λas=>.mr o name as) none
|.Name g _=>(Ab T sc m g).bind λx=>(xK x).bind λfv=>cond (callee T fv) ((oM (f sc m) args).map λas=>.call fv as) none
|_=>none
def TJ(f:Expr->Option X)(o:X):Expr->Option X
|.Slice lo up st _=>cond lo.isNone (match up with
 |some e=>cond st.isNone ((f e).map (.take o)) none
 |none=>st.bind λe=>cond (EG e) (some (.rev o)) none) none
|_=>none
def TK(f:Cf)(sc:Scope)(m:Sm)(v i:Expr):Option X:=(f sc m v).bind λo=>cond (isSlice i) (TJ (f sc m) o i) ((f sc m i).map (.item o))
def cE(T:Tab)(f t:Cf)(sc:Scope)(m:Sm)(e:Expr):Option X:=match e with
|.Constant c _ _=>(QY c).map .k
|.Name x _=>Ab T sc m x
|.BoolOp op vs _=>cBool (f sc m) op vs
|.BinOp l op r _=>(f sc m l).bind λa=>(f sc m r).map λb=>.bin op a b
|.UnaryOp op x _=>cond (TG op) ((f sc m x).map .no) none
|.IfExp c a b _=>(t sc m c).bind λc=>(f sc m a).bind λa=>(f sc m b).map λb=>.sX c a b
|.Dict ks vs _=>cond ks.isEmpty (cond vs.isEmpty (some .jE) none) (cond (bA ks.length 15) ((Ac (f sc m) ks vs).map .dict) none)
|.List es _=>(oM (f sc m) es).map .list
|.Tuple es _ _=>(oM (f sc m) es).map .tup
|.ListComp elt gs jG _=>J4 f t sc m elt gs jG
|.DictComp k v gs jG _=>J5 f t sc m k v gs jG
|.Compare l ops rs _=>(one ops).bind λop=>(one rs).bind λr=>cond (behindInMarks op r) none ((f sc m l).bind λa=>(f sc m r).map λb=>.cmp op a b)
|.Call g args ks pos=>cond ks.isEmpty (TH T f sc m g args pos) none
|.Attribute v a _=>cond (zX v) ((f sc m v).map (.attr · a)) none
|.Subscript v i _=>TK f sc m v i
|_=>none
noncomputable def Fu:Cf:=λJ J J=>none
def Cx(T:Tab):Nat->Cf×Cf
|0=>(Fu,Fu)
|n+1=>(cE T (Cx T n).1 (Cx T n).2,(Cx T n).1)
abbrev Fv(T:Tab)(n:Nat):Cf:=(Cx T n).1
abbrev Fw(T:Tab)(n:Nat):Cf:=(Cx T n).2
def yT(f:Cf)(sc:Scope)(m:Sm)(e:Expr):Option Tt:=match e with
|.Name x _=>cond (t7 sc x) ((jv m x).map .loc) none
|.Attribute o a _=>(f sc m o).map (.nj · a)
|.Subscript o i _=>cond (isSlice i) none ((f sc m o).bind λa=>(f sc m i).map (.nZ a))
|_=>none
def Ae(f:Cf)(sc:Scope)(m:Sm):List Expr->Option (List Tt)
|[]=>some []
|e::r=>(yT f sc m e).bind λt=>(Ae f sc m r).map (t::·)
def xM(f t:Cf)(sc:Scope)(m:Sm)(v:Expr):Option X:=match v with
|.ListComp elt gs jG _=>J4 f t sc m elt gs jG
|.DictComp k v gs jG _=>J5 f t sc m k v gs jG
|.SetComp _ _ _ _=>none
|v=>f sc m v
def TN(f t:Cf)(sc:Scope)(m:Sm)(tg v:Expr):Option St:=(xM f t sc m v).bind λx=>match B8 tg with
|some ts=>cond (Jp v) ((Ae f sc m ts).map (.vf · x)) none
|none=>(yT f sc m tg).map (.asg · x)
def TP(T:Tab)(sc:Scope)(g:Str):Bool:=decide (kindS sc g=some .globalImplicit) && (((jv T.glob g).bind gV).any (zZ · "reversed"))
def TQ(T:Tab)(f:Cf)(b:Scope->Sm->List Stmt->Option jF)(sc:Scope)(m:Sm)(tg it:Expr)(bd:List Stmt):Option St:=(wB sc m tg).bind λtg=>(b sc m bd).bind λbd=>match Jq it with
|some p=>cond (TP T sc p.1) ((f sc m p.2).map λx=>.for true tg x bd) none
|none=>cond (B6 it) ((f sc m it).map λx=>.for false tg x bd) none
noncomputable def isCall:Expr->Bool
|.Call _ _ _ _=>true
|_=>false
noncomputable def TR(f:Cf)(sc:Scope)(m:Sm)(e v:Expr):Option St:=match e with
|.Attribute o a _=>(f sc m o).bind λo=>(f sc m v).map (.aug o a)
|_=>none
def TS(T:Tab)(f t:Cf)(b:Scope->Sm->List Stmt->Option jF)(sc:Scope)(m:Sm)(st:Stmt):Option St:=match st with
|.Expr e _=>cond (isCall e) ((f sc m e).map .expr) none
|.Assign ts v _=>(one ts).bind λtg=>TN f t sc m tg v
|.AugAssign tg op v _=>cond (EB op) (TR f sc m tg v) none
|.If c a o _=>(t sc m c).bind λc=>(b sc m a).bind λa=>(b sc m o).map (.ite c a)
|.While c a o _=>cond o.isEmpty ((t sc m c).bind λc=>(b sc m a).map (.ri c)) none
|.For tg it bd o _=>cond o.isEmpty (TQ T f b sc m tg it bd) none
|.Return e _=>match e with
 |some e=>(f sc m e).map .ret
 |none=>some .Ft
|.Continue _=>some .cont
|_=>none
def Af(T:Tab):Nat->Scope->Sm->List Stmt->Option jF
|0,_,_,_=>none
|n+1,sc,m,b=>match b with
 |[]=>some .nil
 |st::r=>(TS T (Fv T n) (Fw T n) (Af T n) sc m st).bind λs=>(Af T n sc m r).map (.cons s)
set_option backward.match.sparseCases true
section
open PySem.SeqAt
def yU(m:Sm)(sl:Sl):Vw:=λx=>(jv m x).bind (look sl)
structure At(w:World)(n:Nat)(X:Em)(η:AH)(sc:Scope)(m:Sm)(env:Env)(sl:Sl)(s:Shared)(A:Around):Prop where
 B:Base w X η s.heap
 F:Fr X sc env (yU m sl) s.heap
 R:uX A n
 o:xG m=true
abbrev Kx(w:World)(n:Nat)(X:Em)(sc:Scope)(m:Sm)(env:Env)(sl:Sl)(s:Shared)(A:Around)(P:PV->AH->Prop)(Q:Value->Shared->Prop):Prop:=∀{v s' Y p jt},Ext X s no Y s'->At w n Y jt sc m env sl s' A->VR Y v p->P p jt->Q v s'
abbrev Kt(w:World)(n:Nat)(X:Em)(sc:Scope)(m:Sm)(env:Env)(sl:Sl)(s:Shared)(A:Around)(P:Bool->AH->Prop)(Q:Bool->Shared->Prop):Prop:=∀{b s' Y jt},Ext X s no Y s'->At w n Y jt sc m env sl s' A->P b jt->Q b s'
abbrev Ks(w:World)(n:Nat)(X:Em)(sc:Scope)(m:Sm)(env:Env)(sl:Sl)(s:Shared)(A:Around)(P:List PV->AH->Prop)(Q:List Value->Shared->Prop):Prop:=∀{v s' Y p jt},Ext X s no Y s'->At w n Y jt sc m env sl s' A->jI Y v p->P p jt->Q v s'
structure ly(w:World)(n:Nat)(f:Cf):Prop where
 go:∀{sc m e x},f sc m e=some x->∀{env sl A X η s P Q E},At w n X η sc m env sl s A->W n x sl η P->Kx w n X sc m env sl s A P Q->wpAny (model pw w) A (eval e env) Q E s
 star:∀{sc m e x},f sc m e=some x->isStar e=false
def oN(w:World)(n:Nat)(f:Cf):Prop:=∀{sc m e x},f sc m e=some x->∀{env sl A X η s P R Q E},At w n X η sc m env sl s A->W n x sl η P->(∀{u η},P u η->∃b,ng u η=some b/\R b η)->Kt w n X sc m env sl s A R Q->wpAny (model pw w) A (isTrue e env (eval e env)) Q E s
section
variable{w:World}{f t:Cf}{sc:Scope}{m:Sm}{env:Env}{sl:Sl}{X Y:Em}{jt:AH}{s s':Shared}{P:PV->AH->Prop}{Q:Value->Shared->Prop}{E:Value->Shared->Prop}{x:Internal.X}{e e':Expr}{es:List Expr}{pos:Pos}
theorem At.next(C:At w n X η sc m env sl s A)(e:Ext X s no Y s')(B:Base w Y jt s'.heap):At w n Y jt sc m env sl s' A:=⟨B,C.F.ext e,C.R,C.o⟩
theorem At.tok{t:Nat}(C:At w n X η sc m env sl s A):At w n X η sc m env sl { s with toks:=t } A:=⟨C.B,C.F,C.R,C.o⟩
theorem wx{y:Internal.X}(e:y=x)(h:W n x sl η P):W n y sl η P:=e▸h
theorem agb{c:Const}{kk}(h:(QY c).map Internal.X.k=some x)(C:At w n X η sc m env sl s A)(hw:W n x sl η P)(k:Kx w n X sc m env sl s A P Q):wpAny (model pw w) A (eval (.Constant c kk pos) env) Q E s:=jH h λp h e=>by
 have hw:P p η:=wx e hw
 cases c with
|none=>obtain rfl:=ai h;exact wpAny_Constant_none (k (.refl ..) C .none hw)
|bool b=>obtain rfl:=ai h;exact wpAny_Constant_bool (k (.refl ..) C (.bool b) hw)
|int i=>obtain rfl:=ai h;exact wpAny_Constant_int (k (.tok ..) C.tok (.int _ _) hw)
|str x=>obtain rfl:=ai h;exact wpAny_Constant_str (k (.tok ..) C.tok (.str _ _) hw)
|_=>exact xn h
theorem J6(G:Good w tab){y:Str}(h:Ab tab sc m y=some x)(C:At w n X η sc m env sl s A)(hw:W n x sl η P)(k:Kx w n X sc m env sl s A P Q):wpAny (model pw w) A (eval (.Name y pos) env) Q E s:=jz h λkd hk h=>by
 have F:=C.F
 have sv:(jv m y).map Internal.X.v=some x->∃v,yU m sl y=some v/\P v η:=λh=>jH h λi hi e=>(show W n (.v i) sl η P from (wx e hw :)).elim λv z=>⟨v,(congrArg (·.bind (look sl)) hi).trans z.1,z.2⟩
 have kk:=F.kd hk
 cases kd with
|«local»=>exact (sv h).elim λp z=>F.ns.elim λm z2=>(z2.2 hk z.1).elim λv z3=>wpAny_Name (wpAny_loadName_local F.k (kk.elim id λy=>nomatch y.1) z2.1 z3.1 (k (.refl ..) C z3.2 z.2)) (F.db hk).1
|cell=>exact (sv h).elim λp z=>(F.cv (.inl hk) z.1).elim λc y=>y.elim λv y=>wpAny_Name (wpAny_loadName_cell F.k (kk.elim id And.right) y.1 y.2.1 (k (.refl ..) C y.2.2 z.2)) (F.db hk).1
|free=>exact (sv h).elim λp z=>(F.cv (.inr hk) z.1).elim λc y=>y.elim λv y=>wpAny_Name (kk.elim (λe=>wpAny_loadName_free F.k e y.1 y.2.1 (k (.refl ..) C y.2.2 z.2) (F.db hk).2) λe=>wpAny_loadName_cell F.k e.2 y.1 y.2.1 (k (.refl ..) C y.2.2 z.2)) (F.db hk).1
|globalImplicit=>
  refine jH h λp h e=>?_
  have hw:P p η:=wx e hw
  obtain ⟨v,r,mg,mb,hg,hb,q⟩:=G.t h C.B
  rw [<-F.g] at hg
  rw [<-F.b] at hb
  have fin:=k (.refl ..) C r hw
  exact Name_function_global F.k (kk.elim id λy=>nomatch y.1) (q.elim (λq=>loadGlobal_global hg q fin) λq=>loadGlobal_builtin hg q.1 hb q.2 fin) (F.db hk).1
|_=>exact xn h
theorem agc{l r:Expr}{op:Operator}(H:ly w n f)(h:((f sc m l).bind λa=>(f sc m r).map λb=>.bin op a b)=some x)(C:At w n X η sc m env sl s A)(hw:W n x sl η P)(k:Kx w n X sc m env sl s A P Q):wpAny (model pw w) A (eval (.BinOp l op r pos) env) Q E s:=
 jz h λa h1 h=>jH h λb h2 e=>wpAny_BinOp (H.go h1 C (wx e hw :) λe1 C1 r1 hw=>H.go h2 C1 hw λe2 C2 r2 hw=>hw.elim λv z=>z.elim λjD z=>afG z.1 (r1.mono e2.le) r2 C2.B λg=>g.casesOn λe3 B3 r3=>k ((e1.trans e2).trans e3) (C2.next e3 B3) r3 z.2)
theorem agd{l r:Expr}{op:CmpOp}(H:ly w n f)(hm:behindInMarks op r=false)(h:((f sc m l).bind λa=>(f sc m r).map λb=>.cmp op a b)=some x)(C:At w n X η sc m env sl s A)(hw:W n x sl η P)(k:Kx w n X sc m env sl s A P Q):wpAny (model pw w) A (eval (.Compare l [op] [r] pos) env) Q E s:=
 jz h λa h1 h=>jH h λb h2 e=>wpAny_Compare1 (H.go h1 C (wx e hw :) λe1 C1 r1 hw=>H.go h2 C1 hw λe2 C2 r2 hw=>hw.elim λc z=>RC z.1 (r1.mono e2.le) r2 C2.B C2.R.cm λt=>k ((e1.trans e2).trans (.tok ..)) C2.tok (.bool c) z.2) hm
theorem age{y:Expr}(H:ly w n f)(h:(f sc m y).map .no=some x)(C:At w n X η sc m env sl s A)(hw:W n x sl η P)(k:Kx w n X sc m env sl s A P Q):wpAny (model pw w) A (eval (.UnaryOp .Not y pos) env) Q E s:=
 jH h λa h e=>wpAny_UnaryOp (H.go h C (wx e hw :) λe1 C1 r1 hw=>hw.elim λb z=>not_value (Jx z.1 C1.B r1 λt=>k (e1.trans (.tok ..)) C1.tok (.bool _) z.2))
theorem agf{c a b:Expr}(H:ly w n f)(T:oN w n t)(h:((t sc m c).bind λc=>(f sc m a).bind λa=>(f sc m b).map λb=>.sX c a b)=some x)(C:At w n X η sc m env sl s A)(hw:W n x sl η P)(k:Kx w n X sc m env sl s A P Q):wpAny (model pw w) A (eval (.IfExp c a b pos) env) Q E s:=
 jz h λc' h1 h=>jz h λa' h2 h=>jH h λb' h3 e=>wpAny_IfExp (T h1 C (wx e hw :) id λ{b _ _ _} e1 C1 hw=>by
  cases b
  ·exact H.go h3 C1 (hw.2 rfl) λe2=>k (e1.trans e2)
  ·exact H.go h2 C1 (hw.1 rfl) λe2=>k (e1.trans e2))
theorem Ag(he:isStar e=false):starEach (e::es) env=(false,eval e env)::starEach es env:=by
 induction e using PySem.Expr.casesOn<;>first|rfl|exact xg he
theorem Fx(H:ly w n f):∀{es:List Expr} {as:Xs} {X:Em} {η:AH} {s:Shared} {P:List PV->AH->Prop} {Q:List Value->Shared->Prop},oM (f sc m) es=some as->At w n X η sc m env sl s A->WL n as sl η P->Ks w n X sc m env sl s A P Q->wpAny (model pw w) A (spliced (backTo pos (starEach es env))) Q E s
|[],as,X,η,s,P,Q,h,C,hw,k=>by
  obtain rfl:=ai h
  exact wpAny_items_nil (k (.refl ..) C .nil hw)
|e::es,as,X,η,s,P,Q,h,C,hw,k=>jz h λx h1 h=>jH h λas' h2 e'=>wpAny_items_cons (H.go h1 C (show WL n (.cons x as') sl η P from e'▸hw) λe1 C1 r1 hw=>Fx H h2 C1 hw λe2 C2 r2 hw=>k (e1.trans e2) C2 (.cons (r1.mono e2.le) r2) hw) (Ag (H.star h1))
theorem agg(H:ly w n f)(h:(oM (f sc m) es).map .list=some x)(C:At w n X η sc m env sl s A)(hw:W n x sl η P)(k:Kx w n X sc m env sl s A P Q):wpAny (model pw w) A (eval (.List es pos) env) Q E s:=
 jH h λas h e=>wpAny_List (Fx H h C (wx e hw :) λe1 C1 rs hw=>⟨ah (rs.length▸qH hw.1) (dc rfl),(Cg (n:=0) (t:=_) C1.B rs).casesOn λe2 B2 r2=>k (e1.trans e2) (C1.next e2 B2) r2 hw.2⟩)
theorem agh{kk:Nat}(H:ly w n f)(h:(oM (f sc m) es).map .tup=some x)(C:At w n X η sc m env sl s A)(hw:W n x sl η P)(k:Kx w n X sc m env sl s A P Q):wpAny (model pw w) A (eval (.Tuple es kk pos) env) Q E s:=
 jH h λas h e=>wpAny_Tuple (Fx H h C (wx e hw :) λe1 C1 rs hw=>⟨ah (rs.length▸qH hw.1) (dc rfl),(afv (n:=0) (t:=_) C1.B rs).casesOn λe2 B2 r2=>k (e1.trans e2) (C1.next e2 B2) r2 hw.2⟩)
theorem J7(H:ly w n f)(op:BoolOp):∀{es:List Expr} {x:Internal.X} {X:Em} {η:AH} {s:Shared},cBool (f sc m) op es=some x->At w n X η sc m env sl s A->W n x sl η P->Kx w n X sc m env sl s A P Q->wpAny (model pw w) A (boolOp pos op (evalEach es env)) Q E s
|[],_,_,_,_,h,_,_,_=>xn h
|[e],x,X,η,s,h,C,hw,k=>H.go h C hw k
|e::g::es,x,X,η,s,h,C,hw,k=>jz h λa h1 h=>jH h λb h2 e'=>by
  show wpAny _ A (do
   let v <-eval e env
   standAt pos
   let t <-holding [v] (truthy v)
   match op,t with
  |.And,false|.Or,true=>pure v
  |_,_=>boolOp pos op (evalEach (g::es) env)) _ _ s
  refine wpAny_bind (H.go h1 C (wx e' hw :) λe1 C1 r1 hw=>hw.elim λb z=>wpAny_bind (wpAny_standAt (wpAny_bind (wpAny_holding (Jx z.1 C1.B r1 λt=>?_)))))
  have e2:=e1.trans (.tok _ _ _ t)
  cases op<;>cases b
  ·exact wpAny_pure (k e2 C1.tok r1 (z.2.2 rfl))
  ·exact J7 H .And h2 C1.tok (z.2.1 rfl) λe3=>k (e2.trans e3)
  ·exact J7 H .Or h2 C1.tok (z.2.1 rfl) λe3=>k (e2.trans e3)
  ·exact wpAny_pure (k e2 C1.tok r1 (z.2.2 rfl))
theorem TV{o:Expr}{whole:Sem Value}(h:zX o=true):attributeBase o name env whole=whole:=by
 induction o using PySem.Expr.casesOn with
|Call g as ks p=>
  induction g using PySem.Expr.casesOn with
 |Name id q=>
   induction as using List.casesOn with
  |cons _ _=>rfl
  |nil=>induction ks using List.casesOn with
   |cons _ _=>rfl
   |nil=>
     have h:(id != ("super":Str))=true:=h
     unfold attributeBase
     dsimp only
     rw [h]
     rfl
 |_=>rfl
|_=>rfl
theorem agi{v:Expr}{a:Str}(G:Good w tab)(H:ly w n f)(hb:zX v=true)(h:(f sc m v).map (.attr · a)=some x)(C:At w n X η sc m env sl s A)(hw:W n x sl η P)(k:Kx w n X sc m env sl s A P Q):wpAny (model pw w) A (eval (.Attribute v a pos) env) Q E s:=
 jH h λo h e=>Attribute_any_ (H.go h C (wx e hw :) λe1 C1 r1 hw=>hw.elim λu z=>RK G.f z.1 r1 C1.B λt r=>k (e1.trans (.tok ..)) C1.tok r z.2) (by
  show (do
   let o <-attributeBase v a env (eval v env)
   standAt pos.atName
   let r <-holding [o] (getAttr o a true)
   letTemporaryGo v o r
   pure r)=_
  rw [TV hb])
theorem agj(items:List Value)(b:Nat):slicePick items.toArray none (some (b:Int)) none=(items.take b).toArray:=by
 by_cases hb:b<=items.toArray.size
 ·exact slicePick_upto items.toArray b hb
 ·have e:sliceBounds none (some (b:Int)) none items.toArray.size=(((0:Nat):Int),(items.toArray.size:Int),1):=by
   simp only [sliceBounds,Option.getD_none]
   have h2:¬ ((b:Int)<0):=aaX
   simp only [h2,if_false,show (1:Int)>0 by decide,if_true]
   congr 1
   congr 1;exact aaY hb
  unfold slicePick
  rw [e]
  simp only [sliceRange_one,pick_run]
  rw [List.drop_zero,iH (by simp),iH (Nat.le_of_not_le hb)]
theorem jI.take{ps:List PV}:∀{vs:List Value} (k:Nat),jI X vs ps->jI X (vs.take k) (ps.take k):=by
 induction ps with
|nil=>exact λk rs=>o7 rs (by rw [List.take_nil,List.take_nil];exact .nil)
|cons p ps ih=>exact λk rs=>match k with
 |0=>.nil
 |k+1=>m8 rs λv vs r rs=>.cons r (ih k rs)
theorem jI.reverse{ps:List PV}:∀{vs:List Value},jI X vs ps->jI X vs.reverse ps.reverse:=by
 induction ps with
|nil=>exact λrs=>o7 rs .nil
|cons p ps ih=>exact λrs=>m8 rs λv vs r rs=>by rw [ek,ek];exact (ih rs).append (.cons r .nil)
theorem agk{lo up st:Option Expr}{p:Pos}{v u:Value}:∃ops,subscripted (.Slice lo up st p) false v u=operate ops (getItem v u):=by
 cases st<;>exact ⟨_,rfl⟩
theorem TX{lo up st:Option Expr}{p:Pos}{l sl:Addr}{vs:List Value}{ps:List PV}{vl vu TY:Value}{a b c:Option Int}(B:Base w X η s.heap)(hl:s.heap.IsList l vs.toArray)(hs:s.heap.IsSliceOf sl vl vu TY)(pl:IsPart vl a)(pu:IsPart vu b)(pt:IsPart TY c)(h0:c≠some 0)(hz:kY vs.length=true)(hp:slicePick vs.toArray a b c=us.toArray)(rs:jI X us ps){z:PV×AH}(e:t5 η ps=z)
  (k:∀{Y h' v},Ext X s no Y { s with heap:=h' }->Base w Y z.2 h'->VR Y v z.1->Q v { s with heap:=h' }):wpAny (model pw w) A (subscriptTail value (.Slice lo up st p) (.ref l) (.ref sl)) Q E s:=
 Cm ⟨_,_,list_getitem_lookup,hl.typeIs⟩ agk (wpAny_getItem_list_slice hl hs pl pu pt h0 (hp▸(Cg (n:=0) (t:=s.toks) B rs).casesOn λe1 B r=>k e1 (e▸B) (e▸r)) (ah (qH hz) (dc rfl)))
theorem agl{o kv:PV}{z:PV×AH}{G:Prop}(h:EF o kv η=some z)(k:∀(j:Nat) l,kv=.int j->(o=.fl l\/oJ o η=some l)->kY l.length=true->t5 η (l.take j)=z->G):G:=jz h λj e h=>by
 have go:∀{l},o=.fl l\/oJ o η=some l->cond (kY l.length) (some (t5 η (l.take j))) none=some z->G:=λho h=>xc h λc h=>k j _ (wh e).1 ho c (ai h)
 cases o with
|fl l=>exact go (.inl rfl) h
|_=>exact jz h λl e h=>go (.inr e) h
theorem agm{v:Expr}{p:Pos}{o:Internal.X}(H:ly w n f)(h1:f sc m v=some o)(h:(f sc m e).map (.take o)=some x)(C:At w n X η sc m env sl s A)(hw:W n x sl η P)(k:Kx w n X sc m env sl s A P Q):wpAny (model pw w) A (eval (.Subscript v (.Slice none (some e) none p) pos) env) Q E s:=
 jH h λex h2 e'=>Subscript_ (H.go h1 C (wx e' hw :) λ{uy s₁ Y s5 jB} e1 C1 r1 hw=>by
  refine wpAny_Slice ?_
  rw [evalPart_none]
  refine wpAny_pure ?_
  rw [evalPart_some]
  refine H.go h2 C1 hw λ{T3 lW Z agn jA} e2 C2 r2 hw=>wpAny_pure (hw.elim λu z=>z.elim λjD z=>agl z.1 λj l e3 ho c e4=>?_)
  refine vI (v:=T3) (e3▸r2) λt=>?_
  have fin:∀{a vs},lW.heap.IsList a vs.toArray->jI Z vs l->wpAny (model pw w) A (subscriptTail v (.Slice none (some e) none p) (.ref a) (.ref lW.heap.objs.size)) Q E { lW with heap:=lW.heap.push { cls:=.type "slice",data:=.fields #[.none,.int j t,.none] } }:=λ{a vs} hg rs=>
   TX (s:={ lW with heap:=lW.heap.push { cls:=.type "slice",data:=.fields #[.none,.int j t,.none] } }) (C2.B.push _) (hg.push _) (iI ..) .none (.int j t) .none (by simp) (rs.length▸c) (agj ..) (rs.take j) e4 λe5 B5 r5=>
    have e6:=(e1.trans e2).trans ((Ext.push Z lW no _ lW.toks).trans e5)
    k e6 (C.next e6 B5) r5 z.2
  have r1:=r1.mono e2.le
  exact ho.elim (λho=>vF (ho▸r1:VR Z uy (.fl l)) λa o vs m e0 ec ed rs=>fin ⟨_,C2.B.fz e0,ec,_,ed⟩ rs) λho=>xC C2.B ho r1 λa vs n e rs=>fin (oW e) rs)
theorem ago{P:Expr->Prop}(h:Q7 e=true)(k:∀a b,P (.Constant (.int 1) a b)):P e:=by
 induction e using PySem.Expr.casesOn with
|Constant c a b=>induction c using Const.casesOn with
 |int i=>exact of_decide_eq_true h▸k a b
 |_=>exact xf h
|_=>exact xf h
theorem agp{P:Expr->Prop}(h:EG e=true)(k:∀a b c,P (.UnaryOp .USub (.Constant (.int 1) a b) c)):P e:=by
 induction e using PySem.Expr.casesOn with
|UnaryOp op x q=>
  refine xb h λh1 h2=>ago (P:=λx=>P (.UnaryOp op x q)) h2 λa b=>?_
  clear h
  induction op using PySem.UnaryOp.casesOn with
 |USub=>exact k a b q
 |_=>exact xf h1
|_=>exact xf h
theorem agq{v:Expr}{p:Pos}{o:Internal.X}(H:ly w n f)(h1:f sc m v=some o)(hn:EG e=true)(C:At w n X η sc m env sl s A)(hw:W n (.rev o) sl η P)(k:Kx w n X sc m env sl s A P Q):wpAny (model pw w) A (eval (.Subscript v (.Slice none none (some e) p) pos) env) Q E s:=
 Subscript_ (H.go h1 C hw λ{uy s₁ Y s5 jB} e1 C1 r1 hw=>by
  refine wpAny_Slice ?_
  rw [evalPart_none]
  refine wpAny_pure (wpAny_pure ?_)
  rw [evalPart_some]
  refine agp (P:=λe=>wpAny (model pw w) A (eval e env) _ E s₁) hn λa b c=>?_
  refine wpAny_UnaryOp (wpAny_Constant_int (PySem.P.neg_int ?_))
  refine hw.elim λu z=>z.elim λjD z=>jz z.1 λl ho h=>xc h λc2 h=>xC C1.B ho r1 λa vs n e rs=>?_
  refine TX (s:={ s₁ with heap:=s₁.heap.push { cls:=.type "slice",data:=.fields #[.none,.none,.int (-1) (s₁.toks+1)] },toks:=s₁.toks+1+1 }) (C1.B.push _) ((oW e).push _) (iI ..) .none .none (.int _ _) (dc rfl) (rs.length▸c2) (krv_pick _) rs.reverse (ai h) λe5 B5 r5=>?_
  have e6:=e1.trans ((Ext.push Y s₁ no _ _).trans e5)
  exact k e6 (C.next e6 B5) r5 z.2)
theorem agr{v i:Expr}{o:Internal.X}(G:Good w tab)(H:ly w n f)(hs:isSlice i=false)(h1:f sc m v=some o)(h:(f sc m i).map (.item o)=some x)(C:At w n X η sc m env sl s A)(hw:W n x sl η P)(k:Kx w n X sc m env sl s A P Q):wpAny (model pw w) A (eval (.Subscript v i pos) env) Q E s:=
 jH h λj h2 e=>Subscript_ (H.go h1 C (wx e hw :) λe1 C1 r1 hw=>H.go h2 C1 hw λe2 C2 r2 hw=>hw.elim λu z=>afW G.d hs z.1 (r1.mono e2.le) r2 C2.B λt r=>k ((e1.trans e2).trans (.tok ..)) C2.tok r z.2)
theorem agt{f:Expr->Option Internal.X}{o:Internal.X}{P:Expr->Prop}(h:TJ f o e=some x)(kt:∀e p,(f e).map (.take o)=some x->P (.Slice none (some e) none p))(kr:∀e p,EG e=true->.rev o=x->P (.Slice none none (some e) p)):P e:=by
 induction e using PySem.Expr.casesOn with
|Slice lo up st p=>
  refine xc h λc h=>(er.mp c).symm▸?_
  induction up using Option.casesOn with
 |some e=>exact xc h λc h=>(er.mp c).symm▸kt e p h
 |none=>exact jz h λe e1 h=>xc h λc h=>e1▸kr e p c (ai h)
|_=>exact xn h
theorem agu{v i:Expr}(G:Good w tab)(H:ly w n f)(h:TK f sc m v i=some x)(C:At w n X η sc m env sl s A)(hw:W n x sl η P)(k:Kx w n X sc m env sl s A P Q):wpAny (model pw w) A (eval (.Subscript v i pos) env) Q E s:=jz h λo h1 h=>by
 generalize hs:isSlice i=b at h
 cases b with
|false=>exact agr G H hs h1 h C hw k
|true=>exact agt (P:=λi=>wpAny (model pw w) A (eval (.Subscript v i pos) env) Q E s) h (λe p h=>agm H h1 h C hw k) λe p hn e'=>agq H h1 hn C (wx e' hw) k
end
end
section
open PySem.SeqAt
section
variable{w:World}{f t:Cf}{sc:Scope}{m:Sm}{env:Env}{sl:Sl}{X Y:Em}{jt:AH}{s s' s₁:Shared}{P:PV->AH->Prop}{Q:Value->Shared->Prop}{E:Value->Shared->Prop}{x:Internal.X}{e:Expr}{es args:List Expr}{as:Xs}{pos:Pos}{i:Nat}{v u:Value}{p q:PV}
theorem agv{kvs:List (Str×Value)}{k:Str}(nd:(kvs.map (·.1)).Nodup):((stored kvs k v).map (·.1)).Nodup:=by
 unfold stored
 by_cases h:(kvs.any λkv=>decide (kv.1=k))=true
 ·rw [if_pos h,fh,show ((λx=>x.1)∘λ(kv:Str×Value)=>if kv.1=k then (kv.1,v) else kv)=λkv=>kv.1 from funext λkv=>by by_cases q:kv.1=k<;>simp [q]]
  exact nd
 ·rw [if_neg h,aV,cA]
  exact ⟨nd,bw.mpr ⟨aU,.nil⟩,λa ha b hb e=>(aQ.mp ha).elim λkv z=>h (dg.mpr ⟨kv,z.1,decide_eq_true (z.2.trans (e.trans (aJ.mp hb)))⟩)⟩
theorem T4{kps:List (Str×PV)}:∀{more kvs:List (Str×Value)} {l:List (Str×PV)},KR X kvs l->(kvs.map (·.1)).Nodup->KR X more kps->KR X (merged kvs more) (xu l kps):=by
 induction kps with
|nil=>exact λa nd b=>BU b a
|cons p kps ih=>exact λ{_ _ l} a nd b=>vX b λv us rv rs=>(Rh l p.1 p.2▸ih (Jv rv a nd) (agv nd) rs :)
theorem T5{d:Addr}{t:Nat}{kvs:List (Str×Value)}{l:List (Str×PV)}(E:Ext X s no Y s₁)(B:Base w Y η s₁.heap)(hd:s.heap.get? d=none)(off:¬ Y.lq d)(hs:bY d s₁.heap h')(D:h'.DictOf (strKind pw w) d kvs)(r:KR Y kvs l):
  GE w X s (η.add (.sd l 0)) (.ref η.reg η.ju) (.ref d) { s₁ with heap:=h',toks:=t }:=
 D.dictAt.elim λe D'=>made (d:=none) (e:=some e) E B (λ{c} z=>z.elim (λz=>z▸⟨hd,off,D.elim λo z=>z.elim λJ z=>z.elim λJ z=>⟨o,z.1⟩⟩) xn) (λz=>xn z) (λne h=>(hs.2 _ λz=>ne (.inl z)).trans h) (λJ=>⟨l,0,rfl⟩) ⟨kvs,e,if_pos rfl,D',r.mono B.zS⟩
def yV(env:Env)(pos:Pos):List (Option Expr)->List Expr->List (Sem Value×Sem Value)
|some k::ks,v::vs=>(eval k env,do let x <-eval v env;standAt pos;pure x)::yV env pos ks vs
|_,_=>[]
theorem T6{g:Expr->Option Internal.X}{M:List (Option Expr)->List Expr->Ps->Prop}(z:M [] [] .nil)(c:∀{a b ks es x y ps},g a=some x->g b=some y->M ks es ps->M (some a::ks) (b::es) (.cons x y ps)):∀{es:List Expr} {ps:Ps},Ac g ks es=some ps->M ks es ps:=by
 induction ks with
|nil=>exact λ{es} _ h=>match es with
 |[]=>ai h▸z
 |_::_=>xn h
|cons o ks ih=>exact λ{es} _ h=>match es with
 |[]=>by cases o<;>exact xn h
 |b::es=>jz h λa e h=>jz h λx h1 h=>jz h λy h2 h=>jH h λps h3 e'=>e▸e'▸c h1 h2 (ih h3)
theorem agw{g:Expr->Option Internal.X}{ps:Ps}(h:Ac g ks es=some ps):(evalEachOpt ks env).zip ((evalEach es env).map λv=>do let x <-v;standAt pos;pure x)=(yV env pos ks es).map (λp=>(some p.1,p.2))/\(yV env pos ks es).length=ks.length:=
 T6 (M:=λks es J=>(evalEachOpt ks env).zip ((evalEach es env).map λv=>do let x <-v;standAt pos;pure x)=(yV env pos ks es).map (λp=>(some p.1,p.2))/\(yV env pos ks es).length=ks.length) ⟨rfl,rfl⟩ (λJ J z=>⟨congrArg (_::·) z.1,congrArg (·+1) z.2⟩) h
theorem agx(H:ly w n f){ps:Ps}(h:Ac (f sc m) ks es=some ps):∀{X:Em} {η:AH} {s:Shared} {acc:List (Str×PV)} {P:List (Str×PV)->AH->Prop} {Q:List (Value×Value)->Shared->Prop},At w n X η sc m env sl s A->WP n ps sl η acc P->
  (∀{vs s' Y kvs kps jt},Ext X s no Y s'->At w n Y jt sc m env sl s' A->Carries (strKind pw w) vs kvs->KR Y kvs kps->P (xu acc kps) jt->Q vs s')->wpAny (model pw w) A (evalPairs (yV env pos ks es)) Q E s:=by
 refine T6 (M:=λks es ps=>∀{X:Em} {η:AH} {s:Shared} {acc:List (Str×PV)} {P:List (Str×PV)->AH->Prop} {Q:List (Value×Value)->Shared->Prop},At w n X η sc m env sl s A->WP n ps sl η acc P->
  (∀{vs s' Y kvs kps jt},Ext X s no Y s'->At w n Y jt sc m env sl s' A->Carries (strKind pw w) vs kvs->KR Y kvs kps->P (xu acc kps) jt->Q vs s')->wpAny (model pw w) A (evalPairs (yV env pos ks es)) Q E s) ?_ ?_ h
 ·exact λC hw k=>wpAny_pure (k (kvs:=[]) (kps:=[]) (.refl ..) C trivial .nil hw)
 ·exact @λJ J J J J J J h1 h2 ih J J J J J J C hw k=>wpAny_bind (H.go h1 C hw λ{kv s1 _ _ _} e1 C1 r1 hw=>hw.elim λtx z=>wpAny_bind (wpAny_holding (wpAny_bind (H.go h2 C1 z.2 λ{vv s2 _ vp _} e2 C2 r2 hw=>wpAny_bind (wpAny_standAt (wpAny_pure (wpAny_bind (wpAny_holding (ih C2 hw λ{vs s3 Z kvs kps _} e3 C3 c3 r3 hw=>wpAny_pure (k (kvs:=(tx,vv)::kvs) (kps:=(tx,vp)::kps) ((e1.trans e2).trans e3) C3 ⟨vS (v:=kv) (z.1▸r1) λt=>strKind_is pw w tx t,rfl,c3⟩ (.cons (r2.mono e3.le) r3) hw))))))))))
theorem agy(H:ly w n f)(ne:ks.isEmpty=false)(hn:bA ks.length 15=true)(h:(Ac (f sc m) ks es).map .dict=some x)(C:At w n X η sc m env sl s A)(hw:W n x sl η P)(k:Kx w n X sc m env sl s A P Q):wpAny (model pw w) A (eval (.Dict ks es pos) env) Q E s:=
 jH h λps h e=>by
  have z:=agw (env:=env) (pos:=pos) h
  have off:¬ X.lq s.heap.objs.size:=C.B.off (ak _)
  have hg:(s.heap.push zR).get? s.heap.objs.size=some zR:=bK _ rfl
  refine wpAny_Dict_pairs (knd:=strKind pw w) z.1 (λe=>?_) (by rw [z.2];exact b5 hn) (agx H h (C.next (.push (t:=s.toks) ..) (C.B.push _)) (wx e hw :) λ{vs s1 Y kvs kps _} e1 C1 c1 r1 hw=>?_)
  ·rw [iJ (z.2.symm.trans (congrArg gp e))] at ne
   exact nomatch ne
  ·have hD:=e1.keep _ _ hg off id
   refine ⟨kvs,c1,(yH (knd:=strKind pw w) hD).dictOf,λh' D Cy=>(T5 (l:=xu [] kps) ((Ext.push X s no _ s.toks).trans e1) C1.B (bJ (ak _)) (e1.off hg off) Cy D (T4 (l:=[]) .nil .nil r1)).casesOn λe2 B2 r2=>k e2 (C.next e2 B2) r2 hw⟩
theorem J8{g:Expr->Option Internal.X}(hs:∀{e x},g e=some x->isStar e=false):∀{es:List Expr} {as:Xs},oM g es=some as->(backTo pos (starEach es env)).any (·.1)=false
|[],_,_=>rfl
|e::es,_,h=>jz h λx h1 h=>jH h λas h2 J=>by
  rw [Ag (hs h1)]
  exact J8 hs h2
theorem Fy{fv:Value}{first:List Value}{R:List PV->AH->Prop}(hf:keepIn (Kf w.params) fv=true\/(∃id,fv=.builtin id)\/∃id,fv=.type id)(H:ly w n f)(h:oM (f sc m) args=some as)(C:At w n X η sc m env sl s A)(hw:WL n as sl η R)
  (k:∀{us s' Y ps jt},Ext X s no Y s'->At w n Y jt sc m env sl s' A->jI Y us ps->R ps jt->wpAny (model pw w) A (call fv (first++us)) Q E s'):wpAny (model pw w) A (callWith pos fv first (backTo pos (starEach args env)) []) Q E s:=by
 have ha:=J8 (env:=env) (pos:=pos) H.star h
 have ev:wpAny (model pw w) A (evalArgs fv true (backTo pos (starEach args env)) []) (λa s₁=>(Kf w.params).In s₁.heap/\wpAny (model pw w) A (call fv (first++a.pos) a.kw) Q E s₁) E s:=by
  cases args with
 |nil=>
   obtain rfl:=ai h
   exact evalArgs_nil3 ⟨C.B.kf,k (.refl ..) C .nil hw⟩
 |cons e rest=>
   have h0:=Fx (E:=E) (pos:=pos) (Q:=λus s₁=>(Kf w.params).In s₁.heap/\wpAny (model pw w) A (call fv (first++us)) Q E s₁) H h C hw λe1 C1 rs hw=>⟨C1.B.kf,k e1 C1 rs hw⟩
   refine jz h λx h1 J=>?_
   rw [Ag (H.star h1)] at h0 ⊢
   exact evalArgs_plain h0
 refine hf.elim (λhk=>callWith_of (by rw [ha];rfl) (keeps_K hk) ev) λhf=>?_
 have ev:=wpAny_mono ev (λJ J z=>z.2) λJ J x=>x
 exact hf.elim (λz=>z.elim λid e=>(by subst e;exact callWith_builtin ha ev)) λz=>z.elim λid e=>by subst e;exact PySem.callWith_type ha ev
theorem arg1{R:List PV->AH->Prop}{G:List (Bool×Sem Value)->Prop}(H:ly w n f)(hl:aj args.length 1=true)(h:oM (f sc m) args=some as)(C:At w n X η sc m env sl s A)(hw:WL n as sl η R)
  (k:∀e,(∀{Q E:Value->Shared->Prop},(∀{v s' Y p jt},Ext X s no Y s'->At w n Y jt sc m env sl s' A->VR Y v p->R [p] jt->Q v s')->wpAny (model pw w) A (eval e env) Q E s)->G [(false,eval e env)]):G (backTo pos (starEach args env)):=by
 cases args with
|nil=>exact xf hl
|cons e rest=>cases rest with
 |cons _ _=>exact xf hl
 |nil=>
   refine jz h λx h1 h=>?_
   rw [Ag (H.star h1)]
   exact k e λk=>H.go h1 C (show WL n (.cons x .nil) sl η R from ai h▸hw) k
theorem arg2{R:List PV->AH->Prop}{G:List (Bool×Sem Value)->Prop}(H:ly w n f)(hl:aj args.length 2=true)(h:oM (f sc m) args=some as)(C:At w n X η sc m env sl s A)(hw:WL n as sl η R)
  (k:∀e e',(∀{Q:Value->Value->Shared->Prop} {E:Value->Shared->Prop},(∀{v v' s' Y p p' jt},Ext X s no Y s'->At w n Y jt sc m env sl s' A->VR Y v p->VR Y v' p'->R [p,p'] jt->Q v v' s')->wpAny (model pw w) A (eval e env) (λv s₁=>wpAny (model pw w) A (eval e' env) (Q v) E s₁) E s)->G [(false,eval e env),(false,eval e' env)]):G (backTo pos (starEach args env)):=by
 cases args with
|nil=>exact xf hl
|cons e rest=>cases rest with
 |nil=>exact xf hl
 |cons e' rest=>cases rest with
  |cons _ _=>exact xf hl
  |nil=>
    refine jz h λx h1 h=>jH h λas' h h'=>jz h λy h2 h=>?_
    rw [Ag (H.star h1),Ag (H.star h2)]
    exact k e e' λk=>H.go h1 C (show WL n (.cons x (.cons y .nil)) sl η R from ((congrArg (Xs.cons x) (ai h)).trans h':Xs.cons x (Xs.cons y .nil)=as)▸hw) λe1 C1 r1 hw=>H.go h2 C1 hw λe2 C2 r2 hw=>k (e1.trans e2) C2 (r1.mono e2.le) r2 hw
end
end
section
open PySem.SeqAt
section
variable{w:World}{f t:Cf}{sc:Scope}{m:Sm}{env:Env}{sl:Sl}{X Y:Em}{jt:AH}{s s' s₁:Shared}{P:PV->AH->Prop}{Q:Value->Shared->Prop}{E:Value->Shared->Prop}{x:Internal.X}{e:Expr}{es args:List Expr}{as:Xs}{pos:Pos}{i:Nat}{v u:Value}{p q:PV}{z:PV×AH}{a:Addr}{l:List PV}
theorem agz:∀{k₀ k:Nat} {vs:List Value},yD p l k₀=some k->jI X vs l->(∀q∈l,∃c,oV q p=some c)/\∃j,k=k₀+j/\(∃u,vs[j]?=some u/\yJ X p u=true)/\∀m u,m<j->vs[m]?=some u->yJ X p u=false:=by
 induction l with
|nil=>exact λh J=>xn h
|cons b l ih=>
  intro k₀ k vs h rs
  refine jz h λe h1 h=>m8 rs λv us r rs=>?_
  cases e with
 |true=>exact jH h λc h2 e2=>⟨λq hq=>(aB.mp hq).elim (λz=>z▸⟨_,h1⟩) (Rw h2 q),0,e2.symm,⟨v,rfl,EK r h1⟩,λm J hm=>absurd hm (dX m)⟩
 |false=>exact jP (ih h rs) λa y=>y.elim λj y=>⟨λq hq=>(aB.mp hq).elim (λz=>z▸⟨_,h1⟩) (a q),j+1,adq y.1,y.2.1,λm u hm e=>match m with
  |0=>ai e▸EK r h1
  |m+1=>y.2.2 m u (cj hm) e⟩
theorem jI.dropLast{ps:List PV}:∀{vs:List Value},jI X vs ps->jI X vs.dropLast ps.dropLast:=by
 induction ps with
|nil=>exact λr=>o7 r .nil
|cons p ps ih=>
  refine λr=>m8 r λv vs r1 rs=>?_
  cases ps with
 |nil=>exact o7 rs .nil
 |cons q ps=>exact m8 (R:=λus=>jI X us (q::ps)->jI X (v::us).dropLast (p::q::ps).dropLast) rs (λu us J J rs=>.cons r1 (ih rs)) rs
theorem agA:sP=("append":Str):=by decide +kernel
theorem agB:sQ=("extend":Str):=by decide +kernel
theorem agC:sR=("pop":Str):=by decide +kernel
theorem agD:t8=("index":Str):=by decide +kernel
theorem T7:pF=("get":Str):=by decide +kernel
theorem agE:t9=("update":Str):=by decide +kernel
theorem Fz{l':List PV}{vs:List Value}{k:Nat}(B:Base w X η s.heap)(g:η.get r i=some (.list l))(ea:X.ad r i false=some a)(e:s.heap.get? a=some (rJ vs k))(F:Array Value->Array Value)(hF:F vs.toArray=us.toArray)(rs:jI X us l'):
  Ext X s no X { s with heap:=s.heap.update a (bc F) }/\Base w X (η.set r i (.list l')) (s.heap.update a (bc F)):=
 RP (t:=s.toks) B g ea (hF▸IsL.update e F :) (d8 ..) rs
theorem xN{G:Prop}(B:Base w X η s.heap)(ra:VR X (.ref a) (.ref r i))(g:η.lst r i=some l)(k:∀vs n,X.ad r i false=some a->s.heap.get? a=some (rJ vs n)->jI X vs l->G):G:=
 uV (P:=λv=>v=.ref a->G) B ra (wg g) (λb vs n ea e rs hb=>k vs n (cJ hb▸ea) (cJ hb▸e) rs) rfl
theorem xO{vs:List Value}{k:Nat}(rs:jI X vs l)(h:kY k=true)(hk:l.length<=k):vs.toArray.size<=sizeLine:=by
 rw [bM,rs.length]
 exact ah (ah hk (qH h)) (dc rfl)
theorem T8{kvs:List (Str×Value)}{l:List (Str×PV)}(R:KR X kvs l)(y:Str)(r:VR X v p):VR X ((valueAt kvs y).getD v) ((jv l y).getD p):=by
 rw [Jt]
 exact (Ju (k:=y) R).elim (λz=>by rw [z.1,z.2];exact r) λz=>z.elim λq z=>z.elim λu z=>by rw [z.1,z.2.1];exact z.2.2
theorem T9{v:Value}{l:List (Str×PV)}{G:Prop}(B:Base w X η s.heap)(h:xr p η=some l)(rv:VR X v p)(k:∀r i u a kvs,p=.ref r i->v=.ref a->X.ad r i false=some a->η.get r i=some (.sd l u)->s.heap.DictOf (strKind pw w) a kvs->KR X kvs l->(kvs.map (·.1)).Nodup->G):G:=
 jz h λz e h=>jH h λd h e'=>yI (P:=λv'=>v=v'->G) B (uW e▸rv) (EH h) (λa kvs e0 ea J D R ev=>k z.1 z.2 d.2 a kvs (uW e) ev ea (e'▸EH h) D.dictOf (e'▸R) D.nodup) rfl
section
variable(H:ly w n f)(hx:oM (f sc m) args=some as)(C:At w n X η sc m env sl s A)(k:Kx w n X sc m env sl s A P Q)
include H hx C k
section
variable(ra:VR X (.ref a) (.ref r i))
include ra
theorem agF(hl:aj args.length 1=true)(hw:WL n as sl η λvs η=>WM n (.lst r i) sP vs η P):wpAny (model pw w) A (callWith pos (.builtin "list.append") [.ref a] (backTo pos (starEach args env)) []) Q E s:=
 arg1 (G:=λL=>wpAny (model pw w) A (callWith pos (.builtin "list.append") [.ref a] L []) Q E s) H hl hx C hw λe he=>PySem.P.append_list (he λ{uy s₁ Y s5 jB} e1 C1 r1 hw=>hw.elim λu z=>z.elim λjD z=>jz z.1 λl g h=>xc (show cond (kY (l.length+1)) _ none=some _ from h) λc h=>xN C1.B (ra.mono e1.le) g λvs n ea e rs=>
  ⟨vs.toArray,n,xO rs c (aW _),e,jP (Fz (us:=vs++[uy]) C1.B (wg g) ea e (λxs=>xs.push uy) (by simp) (rs.append (.cons r1 .nil))) λE1 B1=>k (e1.trans E1) (C1.next E1 B1) .none (xp h λa b=>a▸b▸z.2)⟩)
theorem agG(hl:aj args.length 1=true)(hw:WL n as sl η λvs η=>WM n (.lst r i) sQ vs η P):wpAny (model pw w) A (callWith pos (.builtin "list.extend") [.ref a] (backTo pos (starEach args env)) []) Q E s:=
 arg1 (G:=λL=>wpAny (model pw w) A (callWith pos (.builtin "list.extend") [.ref a] L []) Q E s) H hl hx C hw λe he=>PySem.P.extend_list (he λ{uy s₁ Y s5 jB} e1 C1 r1 hw=>hw.elim λu z=>z.elim λjD z=>jz z.1 λl g h=>jz (show (oJ s5 jB).bind _=some _ from h) λl' g' h=>xc h λc h=>xb c λc J=>xN C1.B (ra.mono e1.le) g λvs n ea e rs=>xC C1.B g' r1 λb us n' e' Ci=>
  ⟨b,vs.toArray,us.toArray,n,n',xO rs c (aG ..),by rw [<-iK,eW];exact c9 (xO (rs.append Ci) c (aq (aE ..))),(λh=>by rw [<-iK,eW] at h;exact absurd (xO (rs.append Ci) c (aq (aE ..))) (Nat.not_le_of_lt (of_decide_eq_true (aN ..▸h).2))),rfl,e,e',jP (Fz (us:=vs++us) C1.B (wg g) ea e (λxs=>xs++us.toArray) (by simp) (rs.append Ci)) λE1 B1=>k (e1.trans E1) (C1.next E1 B1) .none (xp h λa b=>a▸b▸z.2)⟩)
theorem agH(hl:aj args.length 1=true)(hw:WL n as sl η λvs η=>WM n (.lst r i) t8 vs η P):wpAny (model pw w) A (callWith pos (.builtin "list.index") [.ref a] (backTo pos (starEach args env)) []) Q E s:=
 arg1 (G:=λL=>wpAny (model pw w) A (callWith pos (.builtin "list.index") [.ref a] L []) Q E s) H hl hx C hw λe he=>seqMethod1_meets PySem.F.slot_list_index PySem.F.entry_list_index (he λ{uy s₁ Y s5 jB} e1 C1 r1 hw=>hw.elim λu z=>z.elim λjD z=>jz z.1 λl g h=>jz (show (yD s5 l 0).bind _=some _ from h) λj g' h=>xc h λc h=>xN C1.B (ra.mono e1.le) g λvs n ea e rs=>jP (agz g' rs) λy1 y2=>y2.elim λj' y2=>y2.2.1.elim λy y3=>by
  have ej:j=j':=y2.1.trans (cU _)
  have hj:=(cY.mp y3.1)
  exact ⟨⟨_,e,rfl⟩,PySem.F.args_list_index_2 _ _,_,list_indexAt a vs.toArray n none #[] uy (yJ Y s5) j (ej▸hj.elim λh J=>h) (dY (cF.mpr (ah (aD (ej▸hj.elim λh J=>h)) (xO rs c (ak _)))) (dc rfl)) (by subst ej;exact hj.elim λh e=>(congrArg (yJ Y s5) e).trans y3.2) (λm hm hmj=>y2.2.2 m _ (ej▸hmj) (aR hm)),e,λy hy=>Ry y1 rs r1 C1.B C1.R.cm y hy,k (e1.trans (.tok ..)) C1.tok (.int _ _) (xp h λa b=>a▸b▸z.2)⟩)
theorem agI(hl:aj args.length 0=true)(hw:WL n as sl η λvs η=>WM n (.lst r i) sR vs η P):wpAny (model pw w) A (callWith pos (.builtin "list.pop") [.ref a] (backTo pos (starEach args env)) []) Q E s:=by
 cases args with
|cons _ _=>exact xf hl
|nil=>
  obtain rfl:=ai hx
  exact ay hw λu z=>z.elim λjD z=>jz z.1 λl g h=>jz (show l.getLast?.bind _=some _ from h) λq hq h=>xc h λc h=>xN C.B ra g λvs n ea e rs=>(rs.get (List.getLast?_eq_getElem?.symm.trans hq)).elim λy hy=>by
   have hy1:vs.toArray[vs.toArray.size - 1]?=some y:=by rw [bM,cZ,rs.length];exact hy.1
   refine PySem.P.pop_list e hy1 (jP (Fz (us:=vs.dropLast) C.B (wg g) ea e (λxs=>xs.eraseIdxIfInBounds (vs.toArray.size - 1)) ?_ rs.dropLast) λE1 B1=>k E1 (C.next E1 B1) hy.2 (xp h λa b=>a▸b▸z.2)) (xO rs c (ak _))
   rw [List.eraseIdxIfInBounds_toArray,bM,List.eraseIdx_length_sub_one]
end
theorem Ua{R:List PV->AH->Prop}(hm:(a == sysModules)=false)(hl:(aj args.length 1 || aj args.length 2)=true)(hw:WL n as sl η R)
  (D:∀{Z lW jA vs},Ext X s no Z lW->Base w Z jA lW.heap->R vs jA->∃l kvs q,lW.heap.DictOf (strKind pw w) a kvs/\KR Z kvs l/\getM l vs=some q/\P q jA):wpAny (model pw w) A (callWith pos (.builtin "dict.get") [.ref a] (backTo pos (starEach args env)) []) Q E s:=
 xd (aj args.length 1) (λhl=>arg1 (G:=λL=>wpAny (model pw w) A (callWith pos (.builtin "dict.get") [.ref a] L []) Q E s) H hl hx C hw λe he=>wpAny_dict_get1 (knd:=strKind pw w) hm (he λ{uy s₁ Y s5 jB} e1 C1 r1 hw=>(D e1 C1.B hw).elim λl z=>z.elim λkvs z=>z.elim λq z=>jH z.2.2.1 λy hy e=>⟨y,_,EJ hy r1 λt=>strKind_is pw w y t,z.1.mapOf,k (e1.trans (.tok ..)) C1.tok (T8 z.2.1 y .none) (e▸z.2.2.2)⟩))
  λhn=>arg2 (G:=λL=>wpAny (model pw w) A (callWith pos (.builtin "dict.get") [.ref a] L []) Q E s) H (by rw [hn] at hl;exact hl) hx C hw λe e' he=>wpAny_dict_get2 (knd:=strKind pw w) hm (he λ{uy T3 s₁ Y s5 agn jB} e1 C1 r1 r2 hw=>(D e1 C1.B hw).elim λl z=>z.elim λkvs z=>z.elim λq z=>jH z.2.2.1 λy hy e=>⟨y,_,EJ hy r1 λt=>strKind_is pw w y t,z.1.mapOf,k (e1.trans (.tok ..)) C1.tok (T8 z.2.1 y r2) (e▸z.2.2.2)⟩)
theorem agJ(ra:VR X (.ref a) (.ref r i))(hl:aj args.length 1=true)(hw:WL n as sl η λvs η=>WM n (.dct r i) t9 vs η P):wpAny (model pw w) A (callWith pos (.builtin "dict.update") [.ref a] (backTo pos (starEach args env)) []) Q E s:=
 arg1 (G:=λL=>wpAny (model pw w) A (callWith pos (.builtin "dict.update") [.ref a] L []) Q E s) H hl hx C hw λe he=>method1_meetsIn PySem.F.slot_dict_update PySem.F.entry_dict_update (he λ{uy s₁ Y s5 jB} e1 C1 r1 hw=>hw.elim λu z=>z.elim λjD z=>jz z.1 λo g h=>by
  induction o using AO.casesOn with
 |sd l y=>exact jz (show (xr s5 jB).bind _=some _ from h) λl' g' h=>xc h λd0 h2=>xb d0 λc1 c2=>yI (P:=λv=>v=.ref a->_) C1.B (ra.mono e1.le) g (λa' kvs e0 ea J D R ev=>T9 C1.B g' r1 λr' i' J b us ep eb Ub J D' R' J=>by
    obtain rfl:=cJ ev
    subst eb ep
    refine ⟨D.dictOf.typeIs,PySem.F.args_dict_update_2 _ _,_,meets_dict_update (strKind pw w) a' b (λq=>?_) (C1.B.v7 Ub),_,_,D.dictOf,D',by rw [ug R,ug R'];exact ah (qH c1) (dc rfl),λh' ho J Cy=>?_⟩
    ·have y:=C1.B.inj ea (q▸Ub)
     rw [show EE r i (.ref r' i')=!(aj r r' && aj i i') from rfl,y.1,y.2.1,bZ,bZ] at c2
     exact nomatch c2
    ·exact (JF (n:=y+1) (t:=s₁.toks) C1.B g (λe=>by cases e;exact bG _) ea ho Cy (T4 R D.nodup R')).elim λW z1=>k (e1.trans z1.1) (C1.next z1.1 z1.2) .none (xp h2 λa b=>a▸b▸z.2)) rfl
 |jE=>exact xn h
 |_=>exact xn h)
end
theorem agK{o:Expr}{apos:Pos}(hb:zX o=true)(hl:aj apos.endLine pos.line=true)(hn:args.length<20)(Uc:(backTo pos (starEach args env)).any (·.1)=false)
  (h:wpAny (model pw w) A (eval o env) (λov s₁=>wpAny (model pw w) A (getMethod ov name (do return (<-importBound o env).getD true)) (λfr lW=>wpAny (model pw w) A (callWith pos fr.1 fr.2 (backTo pos (starEach args env)) []) Q E lW) E s₁) E s) :
  wpAny (model pw w) A (eval (.Call (.Attribute o name apos) args [] pos) env) Q E s:=by
 rw [arm_eval_Call,TV hb]
 refine wpAny_bind (wpAny_mono h (λov s₁ Ud=>wpAny_bind (wpAny_standAt ?_)) λJ J e=>e)
 have agL:methodCallForm (args.length+([]:List Keyword).length) (backTo pos (starEach args env)) (backToKw pos (keywordEach [] env))=true:=by
  unfold methodCallForm
  rw [show (backTo pos (starEach args env)).all (λx=>!x.1)=true from aI.mpr λx hx=>by rw [gj] at Uc;simpa using Uc x hx,show (backToKw pos (keywordEach [] env))=[] from rfl]
  simp
  exact om0 hn
 have J9:methodCallPos true o env apos pos=pure pos:=by
  unfold methodCallPos
  simp [aP hl]
 unfold methodCall
 rw [agL]
 refine wpAny_bind (wpAny_holding (wpAny_mono (show wpAny (model pw w) A (calleeOf true o env ov name) _ E s₁ from by unfold calleeOf;rw [if_pos rfl];exact Ud) (λfr lW agM=>wpAny_bind (wpAny_of_eq J9 agM)) λJ J e=>e))
theorem agN{M:Str->Prop}(h:(sq nm sP || sq nm sQ || sq nm sR || sq nm t8)=true)(a:M sP)(e:M sQ)(p:M sR)(i:M t8):M nm:=
 xd (sq nm sP) (λh=>kj.mp h▸a) λh1=>xd (sq nm sQ) (λh=>kj.mp h▸e) λh2=>xd (sq nm sR) (λh=>kj.mp h▸p) λh3=>by
  rw [h1,h2,h3] at h
  exact kj.mp h▸i
theorem agO{c fa:Addr}{pl:Sem Bool}{Q:Value×List Value->Shared->Prop}(M:JZ w.params c nm fa)(B:Base w X η s.heap)(rv:VR X v (.ref r i))(g:η.get r i=some (.inst c fs))(hn:jv fs nm=none)(h:Q (.ref fa,[v]) s):wpAny (model pw w) A (getMethod v nm pl) Q E s:=
 EQ (P:=λv=>Q (.ref fa,[v]) s->wpAny (model pw w) A (getMethod v nm pl) Q E s) B rv g (λa dx m o ea ed I lk hb hr h=>method_fn B.kf I M.ga M.gk M.fnd M.ty (by unfold shadowIn;dsimp only;rw [lk,hr.no hn];rfl) h) h
theorem agP{M:PV->MS->Prop}{ov:PV}{ms:MS}(h:pN tab ov nm η=some ms)
  (kL:∀r i l,η.get r i=some (.list l)->(sq nm sP || sq nm sQ || sq nm sR || sq nm t8)=true->M (.ref r i) (.lst r i))
  (kD:∀r i l u,η.get r i=some (.sd l u)->(sq nm pF || sq nm t9)=true->M (.ref r i) (.dct r i))
  (kN:∀r i,η.get r i=some .jE->sq nm pF=true->M (.ref r i) (.dct r i))
  (kI:∀r i c fs l f,η.get r i=some (.inst c fs)->jL tab.meths c=some l->jv l nm=some f->jv fs nm=none->M (.ref r i) (.fn f (some (.ref r i))))
  (kS:∀a l,jL tab.t4 a=some l->sq nm pF=true->M (.st (.ref a)) (.stat a))
  (kC:∀a l f,jL tab.meths a=some l->jv l nm=some f->M (.st (.ref a)) (.fn f none)):M ov ms:=by
 induction ov using PV.casesOn with
|ref r i=>
  refine jz h λo g h=>?_
  clear kS kC
  induction o using AO.casesOn with
 |list l=>exact xc h λc h=>ai h▸kL r i l g c
 |sd l u=>exact xc h λc h=>ai h▸kD r i l u g c
 |jE=>exact xc h λc h=>ai h▸kN r i g c
 |inst c fs=>exact jz h λl e1 h=>jz h λf e2 h=>xc h λc h=>ai h▸kI r i _ fs l f g e1 e2 (er.mp c)
 |_=>exact xn h
|st y=>
  clear kL kD kN kI
  induction y using Value.casesOn with
 |ref a=>
   refine xo (jL tab.t4 a) (λe=>?_) λl e=>?_
   all_goals
    unfold pN at h
    dsimp only at h
    rw [e] at h
   ·exact jz h λl e1 h=>jH h λf e2 h=>h▸kC a l f e1 e2
   ·exact xc h λc h=>ai h▸kS a l e c
 |_=>exact xn h
|_=>exact xn h
theorem agQ(n:Nat):sZ sP n=aj n 1:=rfl
theorem agR(n:Nat):sZ sQ n=aj n 1:=rfl
theorem agS(n:Nat):sZ sR n=aj n 0:=rfl
theorem agT(n:Nat):sZ t8 n=aj n 1:=rfl
theorem Ue(n:Nat):sZ pF n=(aj n 1 || aj n 2):=rfl
theorem agU(n:Nat):sZ t9 n=aj n 1:=rfl
theorem agV{vs:List PV}(B:Base w X η s.heap)(ra:VR X (.ref a) (.ref r i))(h:WM n (.dct r i) pF vs η P):∃l kvs q,s.heap.DictOf (strKind pw w) a kvs/\KR X kvs l/\getM l vs=some q/\P q η:=
 h.elim λu z=>z.elim λjD z=>jz z.1 λo g h=>by
  have go:∀{kvs l},s.heap.DictOf (strKind pw w) a kvs->KR X kvs l->(getM l vs).map (·,η)=some (u,jD)->∃l kvs q,s.heap.DictOf (strKind pw w) a kvs/\KR X kvs l/\getM l vs=some q/\P q η:=λ{kvs l} D R h=>jH h λq hq e=>⟨l,kvs,q,D,R,hq,(cL e).1▸(cL e).2▸z.2⟩
  have ob:=ra.elim λb y=>(B.ob g).elim λc y2=>(ai (y2.1.symm.trans y.2)).trans (cJ y.1).symm▸y2.2
  induction o using AO.casesOn with
 |sd l u=>exact ay ob λkvs y=>y.elim λJ y=>go y.2.1.dictOf y.2.2 h
 |jE=>exact go (yH (knd:=strKind pw w) ob).dictOf .nil h
 |_=>exact xn h
theorem agW{M:Str->Prop}(h:(sq nm pF || sq nm t9)=true)(g:M pF)(u:M t9):M nm:=
 xd (sq nm pF) (λh=>kj.mp h▸g) λh1=>by
  rw [h1] at h
  exact kj.mp h▸u
theorem get_name{M:Str->Prop}(h:sq nm pF=true)(g:M pF):M nm:=kj.mp h▸g
section
variable(H:ly w n f)(hx:oM (f sc m) args=some as)(C:At w n X η sc m env sl s A)(k:Kx w n X sc m env sl s A P Q){pl:Sem Bool}(ha:sZ nm args.length=true)
include H hx C k ha
theorem Ug(ra:VR X (.ref a) (.ref r i))(hm:(a == sysModules)=false)(hT:s.TypeIs (.ref a) "dict")(hd:∀b,eu a=.ref b->∃o,s.heap.get? b=some o/\o.dict=none)(c:(sq nm pF || sq nm t9)=true)(hw:WL n as sl η λvs η=>WM n (.dct r i) nm vs η P):
  wpAny (model pw w) A (getMethod (.ref a) nm pl) (λfr lW=>wpAny (model pw w) A (callWith pos fr.1 fr.2 (backTo pos (starEach args env)) []) Q E lW) E s:=by
 refine agW (M:=λnm=>sZ nm args.length=true->(WL n as sl η λvs η=>WM n (.dct r i) nm vs η P)->wpAny (model pw w) A (getMethod (.ref a) nm pl) (λfr lW=>wpAny (model pw w) A (callWith pos fr.1 fr.2 (backTo pos (starEach args env)) []) Q E lW) E s) c ?_ ?_ ha hw
 ·exact λha hw=>T7▸getMethod_builtin hT PySem.F.plainAttrs_dict PySem.F.slot_dict_get PySem.F.type_dict_get hd (Ua H hx C k hm ((Ue _).symm.trans ha) hw λe B h=>agV B (ra.mono e.le) h)
 ·exact λha hw=>agE▸getMethod_builtin hT PySem.F.plainAttrs_dict PySem.F.slot_dict_update PySem.F.type_dict_update hd (agJ H hx C k ra ((agU _).symm.trans ha) hw)
theorem agX(g:η.get r i=some (.list l))(c:(sq nm sP || sq nm sQ || sq nm sR || sq nm t8)=true)(rv:VR X v (.ref r i))(hw:WL n as sl η λvs η=>WM n (.lst r i) nm vs η P):
  wpAny (model pw w) A (getMethod v nm pl) (λfr lW=>wpAny (model pw w) A (callWith pos fr.1 fr.2 (backTo pos (starEach args env)) []) Q E lW) E s:=uV C.B rv g λa vs q ea e rs=>by
 have hT:s.TypeIs (.ref a) "list":=⟨_,e,rfl⟩
 have hd:∀b,eu a=.ref b->∃o,s.heap.get? b=some o/\o.dict=none:=λb z=>cJ z▸⟨_,e,rfl⟩
 have ra:VR X (.ref a) (.ref r i):=.ref ea
 refine agN (M:=λnm=>sZ nm args.length=true->(WL n as sl η λvs η=>WM n (.lst r i) nm vs η P)->wpAny (model pw w) A (getMethod (.ref a) nm pl) (λfr lW=>wpAny (model pw w) A (callWith pos fr.1 fr.2 (backTo pos (starEach args env)) []) Q E lW) E s) c ?_ ?_ ?_ ?_ ha hw
 ·exact λha hw=>agA▸getMethod_builtin hT PySem.F.plainAttrs_list PySem.F.slot_list_append PySem.F.type_list_append hd (agF H hx C k ra ((agQ _).symm.trans ha) hw)
 ·exact λha hw=>agB▸getMethod_builtin hT PySem.F.plainAttrs_list PySem.F.slot_list_extend PySem.F.type_list_extend hd (agG H hx C k ra ((agR _).symm.trans ha) hw)
 ·exact λha hw=>agC▸getMethod_builtin hT PySem.F.plainAttrs_list PySem.F.slot_list_pop PySem.F.type_list_pop hd (agI H hx C k ra ((agS _).symm.trans ha) hw)
 ·exact λha hw=>agD▸getMethod_builtin hT PySem.F.plainAttrs_list PySem.F.slot_list_index PySem.F.type_list_index hd (agH H hx C k ra ((agT _).symm.trans ha) hw)
theorem agY{ov:PV}{ms:MS}(G:Good w tab)(rv:VR X v ov)(h:pN tab ov nm η=some ms)(hw:WL n as sl η λvs η=>WM n ms nm vs η P):
  wpAny (model pw w) A (getMethod v nm pl) (λfr lW=>wpAny (model pw w) A (callWith pos fr.1 fr.2 (backTo pos (starEach args env)) []) Q E lW) E s:=by
 refine agP (M:=λov ms=>VR X v ov->(WL n as sl η λvs η=>WM n ms nm vs η P)->wpAny (model pw w) A (getMethod v nm pl) (λfr lW=>wpAny (model pw w) A (callWith pos fr.1 fr.2 (backTo pos (starEach args env)) []) Q E lW) E s) h ?_ ?_ ?_ ?_ ?_ ?_ rv hw
 ·exact λr i l g c rv hw=>agX H hx C k ha g c rv hw
 ·exact λr i l u g c rv hw=>yI C.B rv g λa kvs e ea J D R=>Ug H hx C k ha (.ref ea) (C.B.v7 ea) D.dictOf.typeIs D.dictOf.mapOf.noDict c hw
 ·exact λr i g c rv hw=>Ce C.B rv g λa ea e=>Ug H hx C k ha (.ref ea) (C.B.v7 ea) ⟨_,e,rfl⟩ (λb z=>cJ z▸⟨_,e,rfl⟩) (by rw [c];rfl) hw
 ·exact λr i c fs l fa g h5 h6 h7 rv hw=>
   have M:=G.m h5 h6
   agO M C.B rv g h7 (Fy (.inl M.kp) H hx C hw λe1 C1 rs hw=>hw G C1.B (.st (decide_eq_true M.lt)) (.cons (rv.mono e1.le) rs) C1.R λe2 B2 r2 q=>k (e1.trans e2) (C1.next e2 B2) r2 q)
 ·exact λa l hd c rv hw=>vT rv λJ=>(G.d.at_ hd C.B).elim λhm z=>z.elim λkvs z=>
   get_name (M:=λnm=>sZ nm args.length=true->(WL n as sl η λvs η=>WM n (.stat a) nm vs η P)->wpAny (model pw w) A (getMethod (.ref a) nm pl) (λfr lW=>wpAny (model pw w) A (callWith pos fr.1 fr.2 (backTo pos (starEach args env)) []) Q E lW) E s) c
    (λha hw=>T7▸getMethod_builtin z.1.typeIs PySem.F.plainAttrs_dict PySem.F.slot_dict_get PySem.F.type_dict_get z.1.mapOf.noDict (Ua H hx C k (beq_eq_false_iff_ne.mpr hm) ((Ue _).symm.trans ha) hw λe B h=>h.elim λu y=>y.elim λjD y=>jz y.1 λl' e' h=>jH h λq hq e3=>(G.d.at_ e' B).2.elim λkvs z=>⟨l',kvs,q,z.1,z.2,hq,(cL e3).1▸(cL e3).2▸y.2⟩)) ha hw
 ·exact λa l fa h5 h6 rv hw=>vT rv λJ=>
   have M:=G.m h5 h6
   method_cls C.B.kf M.sp (cls_value C.B.kf M.rd M.fc rfl (Fy (s:={ s with toks:=s.toks+1 }) (.inl M.kp) H hx C.tok hw λe1 C1 rs hw=>hw G C1.B (.st (decide_eq_true M.lt)) rs C1.R λe2 B2 r2 q=>k (((Ext.tok X s no _).trans e1).trans e2) (C1.next e2 B2) r2 q))
end
theorem agZ{o:Expr}{apos:Pos}(G:Good w tab)(H:ly w n f)(c:(zX o && aj apos.endLine pos.line && aY args.length 20 && sZ nm args.length)=true)(h:((f sc m o).bind λo=>(oM (f sc m) args).map λas=>.mr o nm as)=some x)(C:At w n X η sc m env sl s A)(hw:W n x sl η P)(k:Kx w n X sc m env sl s A P Q):wpAny (model pw w) A (eval (.Call (.Attribute o nm apos) args [] pos) env) Q E s:=
 xb c λc ha=>xb c λc hn=>xb c λhb hl=>jz h λox h1 h=>jH h λas h2 e=>agK hb hl (uU hn) (J8 H.star h2) (H.go h1 C (wx e hw :) λe1 C1 r1 hw=>hw.elim λms z=>agY H h2 C1 (λe2=>k (e1.trans e2)) ha G r1 z.1 z.2)
end
end
section
open PySem.SeqAt
def Ah(X:Em)(o:Obj)(k:Nat):Src->Prop
|.lst r i=>∃a,X.ad r i false=some a/\o.cls=.type "list_iterator"/\o.data=.fields #[.ref a,.int k 0]
|.vals l=>∃a,(∃vs m,X.fz a=some (tX vs m)/\jI X vs l)/\o.cls=.type "tuple_iterator"/\o.data=.fields #[.ref a,.int k 0]
|.mU a b=>k<=(b - a).toNat/\o={ cls:=.type "range_iterator",dict:=none,data:=.fields #[rawInt (a+k),rawInt (b - a - k),rawInt 1],slots:=#[] }
|.keys r i v m=>∃a e,X.ad r i false=some a/\X.ep r i v=some e/\o.cls=.type "dict_keyiterator"/\o.data=.fields #[.ref a,.int k 0,.int m 0,.int e 0]
|.nil r i=>∃a,X.ad r i false=some a/\o.cls=.type "dict_keyiterator"/\o.data=.fields #[.ref a,.int (0:Nat) 0,.int (0:Nat) 0,.int (0:Nat) 0]
|.rev r i m=>∃a,X.ad r i false=some a/\k<=m/\o.cls=.type "list_reverseiterator"/\o.data=.fields #[.ref a,rawInt ((m:Int) - 1 - (k:Int))]
def pe(X:Em)(h:Heap)(I:Addr)(k:Nat)(S:Src):Prop:=∃o,h.get? I=some o/\Ah X o k S
section
variable{w:World}{f t:Cf}{sc:Scope}{m:Sm}{env:Env}{sl lD:Sl}{X Y:Em}{jt:AH}{s s' s₁:Shared}{P:PV->AH->Prop}{Q:Value->Shared->Prop}{E:Value->Shared->Prop}{x:Internal.X}{e:Expr}{es args:List Expr}{as:Xs}{pos:Pos}{i k:Nat}{v u:Value}{p q:PV}{a I:Addr}{l:List PV}{S:Src}{h:Heap}{o:Obj}
theorem Ah.mono(x:Ah X o k S)(le:X.Le Y):Ah Y o k S:=by
 induction S using Src.casesOn with
|lst r i=>exact ay x λa z=>⟨a,le.ad z.1,z.2⟩
|vals l=>exact ay x λa z=>⟨a,z.1.elim λvs y=>y.elim λm y=>⟨vs,m,le.fz y.1,y.2.mono le⟩,z.2⟩
|mU a b=>exact x
|keys r i v m=>exact ay x λa z=>z.elim λe z=>⟨a,e,le.ad z.1,le.ep z.2.1,z.2.2⟩
|nil r i=>exact ay x λa z=>⟨a,le.ad z.1,z.2⟩
|rev r i m=>exact ay x λa z=>⟨a,le.ad z.1,z.2⟩
theorem pe.mono(x:pe X h I k S)(le:X.Le Y)(hi:∀o,h.get? I=some o->h'.get? I=some o):pe Y h' I k S:=x.elim λo z=>⟨o,hi o z.1,z.2.mono le⟩
theorem Uh{vs:List Value}(rs:jI X vs l)(h:some l[k]?=some none):vs.toArray[k]?=none:=cZ.trans (cy (rs.length▸fj.mp (ai h)))
theorem Ui{G:Prop}{e:Nat}{d:List (Str×PV)×Nat}{v' n':Nat}(B:Base w X η s.heap)(ea:X.ad r i false=some a)(ee:X.ep r i v'=some e)(c1:aj d.2 v'=true)(c2:aj d.1.length n'=true)(g:η.dct r i=some d)(k:∀kvs,s.heap.DictAt (strKind pw w) a kvs e->KR X kvs d.1->n'=kvs.length->G):G:=
 (B.ob (EH g)).elim λb z=>ay z.2 λkvs y=>y.elim λe' y=>k kvs (ai (z.1.symm.trans ea)▸ai (y.1.symm.trans (aP c1▸ee))▸y.2.1) y.2.2 ((aP c2).symm.trans (ug y.2.2).symm)
theorem Uj{key:Value}{x:Str}(h:(strKind pw w).is x key=true):VR X key (.str x):=by
 cases key<;>first|exact xf h|exact ⟨_,congrArg (Value.str · _) (of_decide_eq_true h)⟩
theorem ag0(B:Base w X η s.heap)(x:pe X s.heap I k S)(hh:A.handled=none)(h:S.at k η=some none){Q:Option Value->Shared->Prop}(q:∀{h'},dI I s.heap h'->Q none { s with heap:=h' }):wpAny (model pw w) A (pyNext (.ref I)) Q E s:=by
 have q:∀h',dI I s.heap h'->Q none { s with heap:=h' }:=λJ=>q
 obtain ⟨o,x⟩:=x
 induction S using Src.casesOn with
|lst r i=>exact jz h λl g h=>xc h λc h=>ay x.2 λa y=>xN B (.ref y.1) g λvs n ea e rs=>wpAny_pyNext_list_end hh ⟨o,x.1,y.2⟩ (oW e) (Uh rs h) q
|vals l=>exact ay x.2 λa y=>y.1.elim λvs z=>z.elim λm z=>wpAny_pyNext_tuple_end hh ⟨o,x.1,y.2⟩ (v8 (B.fz z.1)) (Uh z.2 h) q
|mU a b=>
  have c:decide (a+(k:Int)<b)=false:=xd (decide (a+(k:Int)<b)) (λc=>by
   rw [show Src.at (.mU a b) k η=some (cond (decide (a+k<b)) (some (.int (a+k))) none) from rfl,c] at h
   exact nomatch h) id
  exact wpAny_pyNext_range_end hh (x.1.trans (congrArg some x.2.2)) (abQ (of_decide_eq_false c)) q
|keys r i v m=>exact jz h λd g h1=>xc h1 λc h2=>xb c λc1 c2=>ay x.2 λa y=>y.elim λe y=>Ui B y.1 y.2.1 c1 c2 g λkvs D R hm=>wpAny_pyNext_dict_end hh ⟨o,x.1,hm▸y.2.2⟩ D (cy (ug R▸fj.mp (Option.map_eq_none_iff.mp (ai h2)))) q
|nil r i=>
  refine jz h λb g h=>ay x.2 λa y=>?_
  cases b<;>first|exact xn h|skip
  exact Ce (P:=λu=>u=.ref a->wpAny (model pw w) A (pyNext (.ref I)) Q E s) B (.ref y.1) g (λa' ea e z=>wpAny_pyNext_dict_end (kvs:=[]) hh ⟨o,x.1,y.2⟩ (yH (knd:=strKind pw w) (cJ z▸e)) rfl q) rfl
|rev r i m=>
  have c:aY k m=false:=xd (aY k m) (λc=>by
   rw [show Src.at (.rev r i m) k η=cond (aY k m) ((η.lst r i).bind λl=>cond (kY l.length) ((l[m - 1 - k]?).map some) none) (some none) from rfl,c] at h
   exact jz h λl g h=>xc h λc h=>jH h λJ J e=>nomatch e) id
  exact ay x.2 λa y=>wpAny_pyNext_rev_end hh (l:=a) ⟨o,x.1,y.2.2.1,by rw [y.2.2.2,abT y.2.1 λz=>xf (c.symm.trans (Nat.ble_eq_true_of_le z))]⟩ q
theorem ag1(B:Base w X η s.heap)(x:pe X s.heap I k S)(h:S.at k η=some (some p)){Q:Option Value->Shared->Prop}(q:∀{v h' t},dI I s.heap h'->VR X v p->pe X h' I (k+1) S->Q (some v) { s with heap:=h',toks:=t }):wpAny (model pw w) A (pyNext (.ref I)) Q E s:=by
 obtain ⟨o,x⟩:=x
 induction S using Src.casesOn with
|lst r i=>exact jz h λl g h=>xc h λc h=>ay x.2 λa y=>xN B (.ref y.1) g λvs n ea e rs=>(rs.get (ai h)).elim λv z=>wpAny_pyNext_list_item ⟨o,x.1,y.2⟩ (oW e) (cZ.trans z.1) λh' it e=>q (t:=s.toks) e.extBut z.2 (it.elim λo z=>⟨o,z.1,a,y.1,z.2⟩)
|vals l=>exact ay x.2 λa y=>y.1.elim λvs z=>z.elim λm z=>(z.2.get (ai h)).elim λv z2=>wpAny_pyNext_tuple_item ⟨o,x.1,y.2⟩ (v8 (B.fz z.1)) (cZ.trans z2.1) λh' it e=>q (t:=s.toks) e.extBut z2.2 (it.elim λo z3=>⟨o,z3.1,a,y.1,z3.2⟩)
|mU a b=>
  refine xd (decide (a+(k:Int)<b)) (λc=>?_) λc=>?_
  all_goals rw [show Src.at (.mU a b) k η=some (cond (decide (a+k<b)) (some (.int (a+k))) none) from rfl,c] at h
  ·have c:=of_decide_eq_true c
   refine wpAny_pyNext_range_item (x.1.trans (congrArg some x.2.2)) (abM c) λh' it e=>q e.extBut (ai (ai h)▸.int _ _) ?_
   rw [abO,abP] at it
   exact ⟨_,it,abN c,rfl⟩
  ·exact nomatch h
|keys r i v m=>exact jz h λd g h1=>xc h1 λc h2=>xb c λc1 c2=>ay x.2 λa y=>y.elim λe y=>Ui B y.1 y.2.1 c1 c2 g λkvs D R hm=>jH (ai h2) λb hb eb=>(aft R hb).elim λv hv=>wpAny_pyNext_dict_item ⟨o,x.1,hm▸y.2.2⟩ D hv λkey h' hk it e'=>q (t:=s.toks) e'.extBut (eb▸Uj hk) (it.elim λo z=>⟨o,z.1,a,e,y.1,y.2.1,hm.symm▸z.2⟩)
|nil r i=>exact jz h λb g h=>by cases b<;>first|exact xn h|exact nomatch h
|rev r i m=>
  refine xd (aY k m) (λc=>?_) λc=>?_
  all_goals rw [show Src.at (.rev r i m) k η=cond (aY k m) ((η.lst r i).bind λl=>cond (kY l.length) ((l[m - 1 - k]?).map some) none) (some none) from rfl,c] at h
  ·have e1:=abR (uU c)
   exact jz h λl g h=>xc h λc2 h=>jH h λp' hp e'=>ay x.2 λa y=>xN B (.ref y.1) g λvs n ea e rs=>(rs.get hp).elim λv z=>wpAny_pyNext_rev_item (l:=a) ⟨o,x.1,y.2.2.1,by rw [y.2.2.2,e1]⟩ (oW e) (cZ.trans z.1) λh' it e=>q (t:=s.toks) e.extBut (ai e'▸z.2) (by
    rw [abS e1] at it
    exact it.elim λo z=>⟨o,z.1,a,y.1,uU c,z.2⟩)
  ·exact nomatch h
theorem Uk(B:Base w X η s.heap)(rv:VR X v p)(h:t6 p η=some S)(q:∀{o},pe X (s.heap.push o) s.heap.objs.size 0 S->Q (.ref s.heap.objs.size) { s with heap:=s.heap.push o }):wpAny (model pw w) A (pyIter v) Q E s:=by
 induction p using PV.casesOn with
|ref r i=>
  refine jz h λo g h=>?_
  induction o using AO.casesOn with
 |list l=>
   obtain rfl:=ai h
   exact uV B rv g λa vs n ea e rs=>wpAny_pyIter_list (oW e) (q ⟨_,bK _ rfl,a,ea,rfl,rfl⟩)
 |sd l u=>
   refine xc h λc h=>?_
   obtain rfl:=ai h
   exact yI B rv g λa kvs e ea ee D R=>wpAny_pyIter_dict (B.v7 ea) D (q ⟨_,bK _ rfl,a,e,ea,ee,rfl,ug R▸rfl⟩)
 |jE=>
   obtain rfl:=ai h
   exact Ce B rv g λa ea e=>wpAny_pyIter_dict (B.v7 ea) (yH (knd:=strKind pw w) e) (q ⟨_,bK _ rfl,a,ea,rfl,rfl⟩)
 |_=>exact xn h
|tup l=>
  obtain rfl:=ai h
  exact vU rv λa vs m e rs=>wpAny_pyIter_tuple (v8 (B.fz e)) (q ⟨_,bK _ rfl,a,⟨vs,m,e,rs⟩,rfl,rfl⟩)
|mU a b=>
  refine xc h λc h=>xb c λc c3=>xb c λc1 c2=>?_
  obtain rfl:=ai h
  have c1:=of_decide_eq_true c1
  have c2:=of_decide_eq_true c2
  have c3:=of_decide_eq_true c3
  refine vG rv λd o e0 z=>z.elim λt z=>z.elim λu z=>z.elim λy z=>wpAny_pyIter_range (z▸B.fz e0) (small_one (by omega) (by omega) (by omega) (by omega)) (q ⟨_,bK _ rfl,bx _,?_⟩)
  have q8:iL a b 1=b - a:=by
   unfold iL
   rw [if_pos (dc rfl)]
   split
   ·rw [Int.ediv_one];exact abU
   ·exact abV ⟨⟨c1,c2⟩,c3⟩ (by assumption)
  rw [q8]
  simp
|_=>exact xn h
theorem Ul(x:pe X s.heap I k S)(h:Q (.ref I) s):wpAny (model pw w) A (pyIter (.ref I)) Q E s:=ay x λo x=>by
 induction S using Src.casesOn with
|lst r i=>exact ay x.2 λa y=>wpAny_pyIter_listiter ⟨o,x.1,y.2⟩ h
|vals l=>exact ay x.2 λa y=>wpAny_pyIter_tupleiter ⟨o,x.1,y.2⟩ h
|mU a b=>exact wpAny_pyIter_rangeiter (x.1.trans (congrArg some x.2.2)) h
|keys r i v m=>exact ay x.2 λa y=>y.elim λe y=>wpAny_pyIter_keyiter ⟨o,x.1,y.2.2⟩ h
|nil r i=>exact ay x.2 λa y=>wpAny_pyIter_keyiter ⟨o,x.1,y.2⟩ h
|rev r i m=>exact ay x.2 λa y=>wpAny_pyIter_revIter (i:=(m:Int) - 1 - (k:Int)) ⟨o,x.1,y.2.2⟩ h
theorem Ah.kind(x:Ah X o k S):∃ty vs,o.cls=.type ty/\o.data=.fields vs/\["enumerate","zip","dict_itemiterator","dict_reverseitemiterator","odict_iterator","itertools.zip_longest","itertools.pairwise"].contains ty=false:=by
 induction S using Src.casesOn with
|lst r i=>exact ay x λa y=>⟨_,_,y.2.1,y.2.2,rfl⟩
|vals l=>exact ay x λa y=>⟨_,_,y.2.1,y.2.2,rfl⟩
|mU a b=>exact x.2▸⟨_,_,rfl,rfl,rfl⟩
|keys r i v m=>exact ay x λa y=>y.elim λe y=>⟨_,_,y.2.2.1,y.2.2.2,rfl⟩
|nil r i=>exact ay x λa y=>⟨_,_,y.2.1,y.2.2,rfl⟩
|rev r i m=>exact ay x λa y=>⟨_,_,y.2.2.1,y.2.2.2,rfl⟩
theorem ag2{c:Nat}{Q:Unit->Shared->Prop}(x:pe X s.heap I k S)(h:Q () s):wpAny (model pw w) A (letOwnedTupleGo (.Tuple ts c pos) (.ref I) (.ref a)) Q E s:=x.elim λo x=>x.2.kind.elim λty z=>z.elim λvs z=>by
 refine wpAny_bind (wpAny_load x.1 ?_)
 rw [z.1,z.2.1]
 dsimp only
 rw [z.2.2]
 exact wpAny_pure h
theorem FE{y:Str}(h:B7 e=some y):∃p,e=.Name y p:=by
 induction e using PySem.Expr.casesOn with
|Name y p=>exact ai h▸⟨p,rfl⟩
|_=>exact xn h
theorem Um(h:B8 e=some ts):∃c p,e=.Tuple ts c p:=by
 induction e using PySem.Expr.casesOn with
|Tuple ts c p=>exact ai h▸⟨c,p,rfl⟩
|_=>exact xn h
theorem Un(h:xG m=true){x y:Str}{i:Nat}(hx:jv m x=some i)(hy:jv m y=some i):x=y:=by
 have:=aI.mp (aI.mp h _ (uf hx)) _ (uf hy)
 simp only [bZ,Bool.not_true,Bool.false_or] at this
 exact kj.mp this
theorem J'{v u:PV}:∀{sl:Sl} {i j:Nat},look (put sl i (some v)) j=some u->(j=i/\u=v)\/(j≠i/\look sl j=some u)
|[],_,_,h=>xn h
|_::_,0,0,h=>.inl ⟨rfl,(ai h).symm⟩
|_::_,0,j+1,h=>.inr ⟨O8,h⟩
|_::_,i+1,0,h=>.inr ⟨O9,h⟩
|_::r,i+1,j+1,h=>(J' (sl:=r) h).imp (λz=>⟨congrArg (·+1) z.1,z.2⟩) λz=>⟨λe=>z.1 (dQ e),z.2⟩
theorem At.bind{y:Str}(C:At w n X η sc m env sl s A)(hx:t7 sc y=true)(hi:jv m y=some i)(rv:VR X v p){Q:Unit->Shared->Prop}(q:∀{s'},Ext X s (own sc env) X s'->At w n X η sc m env (put sl i (some p)) s' A->Q () s'):wpAny (model pw w) A (storeName env y v) Q E s:=
 af2 hx C.B C.F rv λe B F=>q e ⟨B,F.at (.refl X) (λJ ho n=>⟨ho,n⟩) λ{z u} g=>jz g λj hj g=>by
  by_cases c:z=y
  ·subst c
   obtain rfl:=ai (hj.symm.trans hi)
   exact (if_pos rfl).trans (congrArg some ((J' g).elim (λz=>z.2.symm) λz=>absurd rfl z.1))
  ·exact (if_neg c).trans ((J' g).elim (λz2=>absurd (Un C.o (z2.1▸hj) hi) c) λz2=>(congrArg (·.bind (look sl)) hj).trans z2.2),C.R,C.o⟩
theorem Uo:∀{ts:List Expr} {is:List Nat},xH sc m ts=some is->(assignEach ts env).length=is.length/\(assignEach ts env).findIdx? (·.1)=none
|[],_,h=>ai h▸⟨rfl,rfl⟩
|e::ts,_,h=>jz h λy h1 h=>xc h λc h=>jz h λi h2 h=>jH h λis h3 h4=>(FE h1).elim λp e1=>by
  have z:=Uo h3
  subst e1 h4
  refine ⟨congrArg (·+1) z.1,?_⟩
  show ((false,assign (.Name y p) env)::assignEach ts env).findIdx? (·.1)=none
  rw [iM,z.2]
  rfl
theorem Ka:∀{is:List Nat} {ps:List PV} {sl lD:Sl},sY is ps sl=some lD->is.length=ps.length
|[],[],_,_,_=>rfl
|_::_,_::_,_,_,h=>congrArg (·+1) (Ka (show sY _ _ (put _ _ _)=_ from h))
|[],_::_,_,_,h=>xn h
|_::_,[],_,_,h=>xn h
theorem ag3:∀{is:List Nat} {vs:List Value} {ps:List PV} {sl:Sl} {s:Shared} {Q:Unit->Shared->Prop},xH sc m ts=some is->sY is ps sl=some lD->At w n X η sc m env sl s A->jI X vs ps->(∀{s'},Ext X s (own sc env) X s'->At w n X η sc m env lD s' A->Q () s')->
  wpAny (model pw w) A (assignInOrder ((assignEach ts env).map (·.2)) vs) Q E s:=by
 induction ts with
|nil=>
  intro is vs ps sl s Q h hp C rs q
  obtain rfl:=ai h
  cases ps with
 |nil=>exact o7 (R:=λvs=>wpAny (model pw w) A (assignInOrder ((assignEach [] env).map (·.2)) vs) Q E s) rs (wpAny_pure (q (.refl ..) (ai hp▸C)))
 |cons _ _=>exact xn hp
|cons e ts ih=>
  refine λ{is vs ps sl s Q} h hp C rs q=>jz h λy h1 h=>xc h λc h=>jz h λi h2 h=>jH h λCz h3 h4=>(FE h1).elim λp e1=>?_
  cases ps with
 |nil=>exact xn (h4▸hp)
 |cons p ps=>exact e1▸m8 (R:=λvs=>wpAny (model pw w) A (assignInOrder ((assignEach (.Name y _::ts) env).map (·.2)) vs) Q E s) rs λv us r rs=>wpAny_bind (wpAny_holding (wpAny_assign_Name (C.bind c h2 r λe1 C1=>ih h3 (show sY Cz ps (put sl i (some p))=some lD from (h4▸hp :)) C1 rs λe2=>q (e1.trans e2))))
theorem ag4{t:Expr}{tg:Tg}(h:wB sc m t=some tg)(hb:tg.bind p sl=some lD)(C:At w n X η sc m env sl s A)(rv:VR X v p)(x:pe X s.heap I k S){Q:Unit->Shared->Prop}(q:∀{s'},Ext X s (own sc env) X s'->At w n X η sc m env lD s' A->Q () s'):
  wpAny (model pw w) A (letOwnedTupleGo t (.ref I) v) (λJ s₁=>wpAny (model pw w) A (assign t env v) Q E s₁) E s:=by
 unfold wB at h
 refine xo (B8 t) (λe=>?_) λts e=>?_
 ·rw [e] at h
  exact jz h λy h1 h=>xc h λc h=>jH h λi h2 h3=>(FE h1).elim λps e1=>by
   subst e1 h3
   exact wpAny_pure (wpAny_assign_Name (C.bind c h2 rv (ai hb▸q)))
 ·rw [e] at h
  refine jH h λis h2 h3=>(Um e).elim λc e1=>e1.elim λps e1=>?_
  subst e1 h3
  cases p with
 |tup l=>
   refine vU rv λa vs m e rs=>ag2 x ?_
   have z:=Uo (env:=env) h2
   refine wpAny_assign_Tuple C.R.h (v8 (C.B.fz e)) (z.1.trans ((Ka hb).trans rs.length.symm)) z.2 λh' eb=>?_
   have E1:Ext X s (own sc env) X { s with heap:=h' }:=(Ext.refl X s _).but (t:=s.toks) (bJ (ak _)) eb
   exact ag3 (s:={ s with heap:=h' }) h2 hb ⟨C.B.extBut (C.B.off (ak _)) eb,C.F.at (.refl X) (λ{a o} _ ho nt=>⟨eb a o (bI (cH ho)) ho,nt⟩) id,C.R,C.o⟩ rs λe2=>q (E1.trans e2)
 |_=>exact xn hb
end
end
section
open PySem.SeqAt
def nR(names:List (Str×NameKind))(x:Str):Bool:=names.any λp=>decide (p.2=.free) && sq p.1 x
def rj(env:Env):List (Str×NameKind)->List (Str×Addr)->List (Str×Addr)
|[],cs=>cs
|p::r,cs=>rj env r (cond (decide (p.2=.free)) ((p.1,(env.cells.lookup p.1).getD 0)::cs) cs)
abbrev ag5(jG:Scope)(env:Env)(C:Addr):Env:={ newEnv jG C env.globals (rj env jG.names []) env.qual none .none (some env) builtinsNs with scope:=relabel jG env }
noncomputable def Ai(e:Expr)(em:Sem Unit)(tg iter:Expr)(ifs:List Expr)(it acc:Value)(mw:Env):Sem Fin:=do
 standAt iter.pos
 match <-pyNext it with
|none=>pure (.done .next)
|some v=>
  letOwnedTupleGo tg it v
  assign tg mw v
  let mut ok:=true
  for c in ifs do
   if ok then ok <-isTrue c mw (eval c mw)
  if ok then
   em
  again (.compLoop e 0 it acc mw)
noncomputable def Kd(elt:Expr)(acc:Value)(mw:Env):Sem Unit:=do let _ <-call (.builtin "list.append") [acc,<-eval elt mw]
noncomputable def Kg(kx vx:Expr)(D:Addr)(mw:Env):Sem Unit:=do
 let kv <-eval kx mw
 let vv <-holding [kv] (eval vx mw)
 standAt { kx.pos with endLine:=vx.pos.endLine,endCol:=vx.pos.endCol }
 holding [kv,vv] (dictSet D kv vv)
section
variable{w:World}{f t:Cf}{sc jG:Scope}{m m':Sm}{env mw:Env}{sl lD:Sl}{X Y:Em}{jt:AH}{s s' s₁:Shared}{P:PV->AH->Prop}{Q:Value->Shared->Prop}{E:Value->Shared->Prop}{e iter:Expr}{ifs:List Expr}{pos:Pos}{i k:Nat}{v u:Value}{p q:PV}{a I D:Addr}{l:List PV}{S:Src}{h:Heap}{o:Obj}
theorem ag6(T:oN w n t){es:List Expr}:∀{xs:Xs} {X:Em} {η:AH} {s:Shared} {P:Bool->AH->Prop} {Q:Bool->Shared->Prop},oM (t sc m) es=some xs->At w n X η sc m env sl s A->TL n xs sl η P->Kt w n X sc m env sl s A P Q->
  wpAny (model pw w) A (forIn es true λc r=>if r=true then do let ok <-isTrue c env (eval c env);pure (cB ok) else pure (cB r)) Q E s:=by
 have skip:∀(es:List Expr) {s:Shared} {Q:Bool->Shared->Prop},Q false s->wpAny (model pw w) A (forIn es false λc r=>if r=true then do let ok <-isTrue c env (eval c env);pure (cB ok) else pure (cB r)) Q E s:=by
  intro es
  induction es with
 |nil=>exact λh=>wpAny_pure h
 |cons e es ih=>
   intro s Q h
   rw [fk]
   exact wpAny_bind (wpAny_pure (ih h))
 induction es with
|nil=>
  intro xs X η s P Q h C hw q
  obtain rfl:=ai h
  exact wpAny_pure (q (.refl ..) C hw)
|cons e es ih=>
  intro xs X η s P Q h C hw q
  rw [fk]
  refine jz h λx h1 h=>jH h λxs' h2 h3=>?_
  subst h3
  exact wpAny_bind (wpAny_bind (T (R:=λb η=>(b=true->TL n xs' sl η P)/\(b=false->P false η)) h1 C hw (λh=>h) λ{b _ _ _} e1 C1 hw=>wpAny_pure (match b,hw with
  |true,hw=>ih h2 C1 (hw.1 rfl) λe2=>q (e1.trans e2)
  |false,hw=>skip es (q e1 C1 (hw.2 rfl)))))
def CC(w:World)(n:Nat)(A:Around)(jG:Scope)(m:Sm)(mw:Env)(D:Addr)(r i:Nat)(em:Sem Unit)(EM:Sl->AH->(AH->Prop)->Prop):Prop:=
 ∀{Y sl η s P E} {Q:Unit->Shared->Prop},EM sl η P->At w n Y η jG m mw sl s A->Y.ad r i false=some D->(∀{s' Z jt},Ext Y s no Z s'->At w n Z jt jG m mw sl s' A->P jt->Q () s')->wpAny (model pw w) A em Q E s
theorem At.nx{t:Nat}(C:At w n X η sc m env sl s A)(hT:¬ X.lq I)(hn:¬ yL env I)(eb:dI I s.heap h'):At w n X η sc m env sl { s with heap:=h',toks:=t } A:=
 ⟨C.B.extBut hT eb,C.F.at (.refl X) (λ{a o} ha ho nt=>⟨eb a o (λq=>hn (q▸ha)) ho,nt⟩) id,C.R,C.o⟩
section
variable{se:Em}{qx:Shared}{F:Addr->Prop}(hI:qx.heap.get? I=none)(hO:∀a o,qx.heap.get? a=some o->¬ se.lq a->own sc env a->F a)(hn:¬ yL env I)(ht:wB sc m tg=some nW)(E0:Ext se qx F X s)(C:At w n X η sc m env sl s A)(x:pe X s.heap I k S)(hT:¬ X.lq I)
include hI hO hn ht E0 C x hT
theorem Up{o:Option PV}{Q:Option Value->Shared->Prop}(h:S.at k η=some o)(qn:o=none->∀{s'},Ext se qx F X s'->At w n X η sc m env sl s' A->Q none s')
  (qs:∀{p},o=some p->∀{v s'},(∀{lD} {Q:Unit->Shared->Prop} {E},nW.bind p sl=some lD->(∀{s'},Ext se qx F X s'->At w n X η sc m env lD s' A->pe X s'.heap I (k+1) S->Q () s')->wpAny (model pw w) A (letOwnedTupleGo tg (.ref I) v) (λJ s₁=>wpAny (model pw w) A (assign tg env v) Q E s₁) E s')->Q (some v) s') :
  wpAny (model pw w) A (pyNext (.ref I)) Q E s:=by
 cases o with
|none=>exact ag0 C.B x C.R.h h λeb=>qn rfl (E0.but (t:=s.toks) hI eb) (C.nx (t:=s.toks) hT hn eb)
|some p=>exact ag1 C.B x h λeb rv x2=>qs rfl λhb q=>ag4 ht hb (C.nx hT hn eb) rv x2 λe2 C2=>q ((E0.but hI eb).into e2 hO) C2 (x2.mono (.refl X) λo ho=>e2.keep I o ho hT λq=>hn (EW q))
theorem ag7{em:Sem Unit}{EM:Sl->AH->(AH->Prop)->Prop}{xs:Xs}{PP:AH->Prop}{QF:Fin->Shared->Prop}(T:oN w n t)(CD:CC w n A sc m env D r i em EM)(hi:oM (t sc m) ifs=some xs)(hD:X.ad r i false=some D)
  (hw:pH (TL n xs) EM nW S (fuel+1) k sl η PP) (qd:∀{s'},Ext se qx F X s'->At w n X η sc m env sl s' A->PP η->QF (.done .next) s')
  (qa:∀{s' Y lD jt},pH (TL n xs) EM nW S fuel (k+1) lD jt PP->Ext se qx F Y s'->At w n Y jt sc m env lD s' A->pe Y s'.heap I (k+1) S->¬ Y.lq I->Y.ad r i false=some D->QF (.again (.compLoop e 0 (.ref I) (.ref D) env)) s'):wpAny (model pw w) A (Ai e em tg iter ifs (.ref I) (.ref D) env) QF E s:=by
 refine wpAny_bind (wpAny_standAt (wpAny_bind (ay hw λo z=>Up hI hO hn ht E0 C x hT z.1 (λe {_} E1 C1=>?_) λ{p} e {v s1} hs=>?_)))
 ·subst e
  exact wpAny_pure (qd E1 C1 z.2)
 ·subst e
  refine ay z.2 λlD z=>wpAny_bind (wpAny_mono (hs z.1 λ{s3} E3 C3 x3=>?_) (λJ J h=>wpAny_bind h) λJ J x=>x)
  clear hs
  have up:∀{Y s'},Ext X s3 no Y s'->Ext se qx F Y s'/\pe Y s'.heap I (k+1) S/\¬ Y.lq I/\Y.ad r i false=some D:=λ{Y s'} e=>x3.elim λo y=>⟨E3.trans e.up,x3.mono e.le λo ho=>e.keep I o ho hT id,e.off y.1 hT,e.le.ad hD⟩
  refine wpAny_bind (ag6 T (P:=λb η=>(b=true->EM lD η λη=>pH (TL n xs) EM nW S fuel (k+1) lD η PP)/\(b=false->pH (TL n xs) EM nW S fuel (k+1) lD η PP)) hi C3 z.2 λ{b s4 Z Aj} e4 C4 hw=>?_)
  have U:=up e4
  cases b with
 |false=>exact wpAny_pure (qa (hw.2 rfl) U.1 C4 U.2.1 U.2.2.1 U.2.2.2)
 |true=>exact wpAny_bind (CD (hw.1 rfl) C4 U.2.2.2 λe5 C5 hw=>have U:=up (e4.trans e5);wpAny_pure (qa hw U.1 C5 U.2.1 U.2.2.1 U.2.2.2))
theorem ag8{em:Sem Unit}{EM:Sl->AH->(AH->Prop)->Prop}{xs:Xs}{PP:AH->Prop}{R:Result->Shared->Prop}(T:oN w n t)(CD:CC w n A sc m env D r i em EM)(hi:oM (t sc m) ifs=some xs)(hD:X.ad r i false=some D)
  (Kh:compTurn e 0 (.ref I) (.ref D) env=Ai e em tg iter ifs (.ref I) (.ref D) env) (Km:(ew e 0 (.ref I) (.ref D) env).isFrame=false) (Ko:A.under (ew e 0 (.ref I) (.ref D) env)=A)
  (hw:pH (TL n xs) EM nW S fuel k sl η PP) (q:∀{s' Y lD jt},Ext se qx F Y s'->At w n Y jt sc m env lD s' A->Y.ad r i false=some D->PP jt->R (.ok .next) s'):codeAny (model pw w) A (.compLoop e 0 (.ref I) (.ref D) env) R s:=by
 refine codeAny_loop rfl (λoz s'=>∀G:Prop,(∀Y sl η k,pH (TL n xs) EM nW S oz k sl η PP->Ext se qx F Y s'->At w n Y η sc m env sl s' A->pe Y s'.heap I k S->¬ Y.lq I->Y.ad r i false=some D->G)->G) ?_ fuel λJ q=>q X sl η k hw E0 C x hT hD
 clear hw E0 C x hT hD
 intro oz s₁ g
 have hd:(model pw w).den (.compLoop e 0 (.ref I) (.ref D) env)=(Ai e em tg iter ifs (.ref I) (.ref D) env).onRaise (λx=>do noteFrame x env;theTreesLotGoes x):=by
  show (if (ew e 0 (.ref I) (.ref D) env).isFrame=true then _ else _)=_
  rw [Km,<-Kh]
  rfl
 rw [hd,Ko]
 refine wpAny_noted (g _ λY sl η k hw E C x hT hD=>?_)
 cases oz with
|zero=>exact hw.elim
|succ oz=>exact ag7 hI hO hn ht E C x hT T CD hi hD hw (λe C h=>q e C hD h) λhw e C x hT hD=>⟨rfl,oz,bG oz,λJ q=>q _ _ _ _ hw e C x hT hD⟩
end
theorem ag9{y:Str}(h:nR names y=true):(y,gq)∈names:=(dg.mp h).elim λp z=>xb z.2 λa b=>by
 have e:p=(y,.free):=dR (kj.mp b) (of_decide_eq_true a)
 exact e▸z.1
theorem Uq(y:Str):∀{cs:List (Str×Addr)},(rj env names cs).lookup y=cond (nR names y) (some ((env.cells.lookup y).getD 0)) (cs.lookup y):=by
 induction names with
|nil=>exact rfl
|cons p r ih=>
  intro cs
  refine ih.trans ?_
  show _=cond ((decide (p.2=.free) && sq p.1 y) || nR r y) _ _
  cases decide (p.2=.free) with
 |false=>rfl
 |true=>
   show cond (nR r y) _ (match y == p.1 with|true=>some _|false=>cs.lookup y)=cond (sq p.1 y || nR r y) _ _
   by_cases q:y=p.1
   ·subst q
    rw [kj.mpr rfl,beq_self_eq_true]
    cases nR r p.1<;>rfl
   ·rw [beq_eq_false_iff_ne.mpr q,uS,decide_eq_false (cX q)]
    rfl
theorem aha(h:∀{y},nR jG.names y=true->∃c,env.cells.lookup y=some c):closureFor jG env=pure (rj env jG.names []):=by
 have go:∀(names:List (Str×NameKind)) (cs:List (Str×Addr)),(∀{y},nR names y=true->∃c,env.cells.lookup y=some c)->(forIn names cs λ(p:Str×NameKind) cs=>(do
  if p.2 == .free then pure (cB ((p.1,<-cellOf env p.1)::cs)) else pure (cB cs):Sem (ForInStep (List (Str×Addr)))))=pure (rj env names cs):=by
  intro names
  induction names with
 |nil=>exact λJ J=>rfl
 |cons p r ih=>
   intro cs h
   have ih:=λcs=>ih cs λ{y} z=>h (y:=y) ((congrArg ((decide (p.2=.free) && sq p.1 y) || ·) z).trans (Bool.or_true _))
   rw [fk]
   refine xd (decide (p.2=.free)) (λc=>?_) λc=>?_
   ·have e:rj env (p::r) cs=rj env r ((p.1,(env.cells.lookup p.1).getD 0)::cs):=congrArg (λb=>rj env r (cond b _ cs)) c
    rw [e,<-ih,if_pos (show (p.2 == .free)=true from c)]
    obtain ⟨a,ha⟩:=h (y:=p.1) (show ((decide (p.2=.free) && sq p.1 p.1) || nR r p.1)=true by rw [c,kj.mpr rfl];rfl)
    rw [show cellOf env p.1=pure a by unfold cellOf;rw [ha],ha,pure_bind,pure_bind]
    rfl
   ·have e:rj env (p::r) cs=rj env r cs:=congrArg (λb=>rj env r (cond b _ cs)) c
    rw [e,<-ih,if_neg (show ¬ (p.2 == .free)=true from λz=>xf (c.symm.trans z)),pure_bind]
 exact (congrArg (λm=>m >>= λcs=>pure cs) (go jG.names [] h)).trans (pure_bind _ _)
theorem mY{α:Type _}{c:Bool}{x y z:α}{P:Prop}(h:cond c x y=z)(k:c=true->x=z->P)(f:c=false->y=z->P):P:=by
 cases c
 ·exact f rfl h
 ·exact k rfl h
theorem Kq{p:Str×NameKind}{ns:List (Str×NameKind)}{y:Str}{G:Prop}(h:nR (p::ns) y=true)(k:p.2=.free->p.1=y->G)(f:nR ns y=true->G):G:=
 ((bC ..).mp h).elim (λh=>xb h λa b=>k (of_decide_eq_true a) (kj.mp b)) f
theorem Kr{p:Str×NameKind}{ns:List (Str×NameKind)}{y:Str}(h:nR ns y=true):nR (p::ns) y=true:=(bC ..).mpr (.inr h)
theorem Ur:∀{b:Nat} {q:Sm×List Nat×List Nat},xJ sc m b names=some q->
  (∀{y},nR names y=true->(kindS sc y=some .cell\/kindS sc y=some .free)/\(allB sl q.2.2=true->∃p,yU m sl y=some p))/\∀{y i},jv q.1 y=some i->i∈q.2.1\/(nR names y=true/\jv m y=some i):=by
 induction names with
|nil=>exact λh=>ai h▸⟨λh=>xf h,λh=>xn h⟩
|cons p r ih=>
  refine λ{b q} h=>mY h (λc h=>jH h λq' h1 e=>?_) λc h=>mY h (λc h=>jz h λi hi h=>jz h λkd hk h=>xc h λck h=>jH h λq' h1 e=>?_) λc h=>?_
  ·have z:=ih h1
   exact e▸⟨λ{y} hy=>Kq hy (λa J=>nomatch a.symm.trans (of_decide_eq_true c)) z.1,λ{y i} hy=>mY (show cond (sq p.1 y) (some b) (jv q'.1 y)=_ from hy) (λJ hy=>.inl (ai hy▸bL ..)) λJ hy=>(z.2 hy).imp (bu _) λz=>⟨Kr z.1,z.2⟩⟩
  ·have z:=ih h1
   exact e▸⟨λ{y} hy=>Kq hy (λJ a=>a▸⟨((bC ..).mp ck).imp (λz=>hk.trans (congrArg some (of_decide_eq_true z))) λz=>hk.trans (congrArg some (of_decide_eq_true z)),λha=>xb (show ((look sl i).isSome && allB sl q'.2.2)=true from ha) λha J=>(cz.mp ha).elim λu hu=>⟨u,(congrArg (·.bind (look sl)) hi).trans hu⟩⟩) λhy=>⟨(z.1 hy).1,λha=>xb (show ((look sl i).isSome && allB sl q'.2.2)=true from ha) λJ ha=>(z.1 hy).2 ha⟩,
    λ{y i'} hy=>mY (show cond (sq p.1 y) (some i) (jv q'.1 y)=_ from hy) (λc2 hy=>.inr ⟨(bC ..).mpr (.inl (show (decide (p.2=.free) && sq p.1 y)=true by rw [c,c2];rfl)),ai hy▸kj.mp c2▸hi⟩) λJ hy=>(z.2 hy).imp id λz=>⟨Kr z.1,z.2⟩⟩
  ·have z:=ih h
   exact ⟨λ{y} hy=>Kq hy (λa J=>xf (c.symm.trans (decide_eq_true a))) z.1,λhy=>(z.2 hy).imp id λz=>⟨Kr z.1,z.2⟩⟩
theorem Us{u:PV}:∀{sl:Sl} {i j:Nat},look (put sl i none) j=some u->j≠i/\look sl j=some u
|[],_,_,h=>xn h
|_::_,0,0,h=>xn h
|_::_,0,j+1,h=>⟨O8,h⟩
|_::_,i+1,0,h=>⟨O9,h⟩
|_::r,i+1,j+1,h=>(Us (sl:=r) h).imp (λz e=>z (dQ e)) id
theorem ahb{u:PV}{ls:List Nat}:∀{sl:Sl},look (clear sl ls) j=some u->j∉ls/\look sl j=some u:=by
 induction ls with
|nil=>exact λh=>⟨aU,h⟩
|cons i r ih=>exact λh=>(ih h).elim λa b=>(Us b).elim λc d=>⟨λe=>(aB.mp e).elim c a,d⟩
theorem ahc{b:Nat}{q:Sm×List Nat×List Nat}(h:xJ sc m b jG.names=some q){y:Str}(g:yU q.1 (clear sl q.2.1) y=some p):nR jG.names y=true/\yU m sl y=some p:=
 jz g λi hi hl=>jP (ahb hl) λhn hl=>((Ur (sl:=sl) h).2 hi).elim (λz=>absurd z hn) λz=>⟨z.1,(congrArg (·.bind (look sl)) z.2).trans hl⟩
theorem ahd:Q0=("__debug__":Str):=by decide +kernel
theorem ahe:Q5=("__classdict__":Str):=by decide +kernel
theorem Ut(h:Jm jG=true){y:Str}{k:NameKind}(hk:kindS jG y=some k):(y == ("__debug__":Str))=false/\(y == ("__classdict__":Str))=false:=
 have Uu:∀{z:Str},(!(sq y z))=true->(y == z)=false:=λ{z} h=>Js y z▸((cM _).mp h)
 xb (aI.mp h _ (uf hk)) λa b=>⟨ahd▸Uu a,ahe▸Uu b⟩
theorem ahf{F:Str×NameKind->Str×NameKind}{g:Str->NameKind->NameKind}(hf:∀p,F p=(p.1,g p.1 p.2))(y:Str)(l:List (Str×NameKind)):(l.map F).lookup y=(l.lookup y).map (g y):=by
 induction l with
|nil=>rfl
|cons p r ih=>
  rw [bT,hf,bB,bB,ih]
  by_cases q:y=p.1
  ·rw [q,beq_self_eq_true];rfl
  ·rw [beq_eq_false_iff_ne.mpr q]
theorem ahg{y:Str}{k:NameKind}(h:kindS jG y=some k):(relabel jG env).names.lookup y=some k\/k=.free/\(relabel jG env).names.lookup y=some .cell:=by
 rw [show (relabel jG env).names.lookup y=_ from ahf (g:=λy k=>if (k == gq && env.scope.kind == .function && env.kindOf y == some .cell) then .cell else k) (λp=>by
  show (if _ then _ else _)=_
  split<;>rfl) y jG.names,<-xB,show jv jG.names y=some k from h]
 by_cases c:(k == gq && env.scope.kind == .function && env.kindOf y == some .cell)=true
 ·exact .inr ⟨xb c λc J=>xb c λc J=>beq_iff_eq.mp c,congrArg some (if_pos c)⟩
 ·exact .inl (congrArg some (if_neg c))
theorem Uv{ρ:Vw}(F:Fr X sc env ρ h)(fa:∀{y},nR jG.names y=true->kindS sc y=some .cell\/kindS sc y=some .free){y:Str}{c:Addr}(q:(rj env jG.names []).lookup y=some c):nR jG.names y=true/\env.cells.lookup y=some c:=
 mY ((Uq y).symm.trans q) (λhy q=>⟨hy,(F.cl (fa hy)).elim λa ha=>ha.trans (congrArg (λo:Option Addr=>some (o.getD 0)) ha▸q)⟩) λJ q=>xn q
theorem ahh{ρ Cp:Vw}{C:Addr}(F:Fr X sc env ρ h)(hc:ED jG=true)(fa:∀{y},nR jG.names y=true->kindS sc y=some .cell\/kindS sc y=some .free)(fb:∀{y p},Cp y=some p->nR jG.names y=true/\ρ y=some p)(ahi:h'.Ns C (λJ=>none))(hold:∀{a o},h.get? a=some o->h'.get? a=some o)(hC:¬ X.lq C)(hCn:h.get? C=none):Fr X jG (ag5 jG env C) Cp h':=
 xb hc λc c3=>xb c λc1 c2=>by
 have nm:∀{y k},kindS jG y=some k->k≠.cell/\(k=.free->nR jG.names y=true):=λ{y k} hk=>xb (aI.mp c3 _ (uf hk)) λa b=>⟨of_decide_eq_false ((cM _).mp a),λe=>dg.mpr ⟨_,uf hk,by rw [e,kj.mpr rfl];rfl⟩⟩
 have kf:∀{y},nR jG.names y=true->kindS jG y=some .free:=λhy=>xb (aI.mp c3 _ (ag9 hy)) λJ b=>of_decide_eq_true b
 have cell:∀{y c},(rj env jG.names []).lookup y=some c->nR jG.names y=true/\env.cells.lookup y=some c:=Uv F fa
 have has:∀{y c},nR jG.names y=true->env.cells.lookup y=some c->(rj env jG.names []).lookup y=some c:=λhy q=>by
  rw [Uq,hy,q]
  rfl
 exact {
  k:=of_decide_eq_true c2
  g:=F.g
  b:=F.b
  kd:=ahg
  db:=Ut c1
  ns:=⟨_,ahi,λhk hp=>nomatch hk.symm.trans (kf (fb hp).1)⟩
  ut:=hC
  ce:=λq=>have z:=F.ce (cell q).2;⟨z.1,λe=>z.2.2.elim λv y=>y.elim λo y=>xm ((e▸y.1).symm.trans hCn),z.2.2.elim λv y=>⟨v,yM y λo=>hold⟩⟩
  ap:=λq q'=>F.ap (cell q).2 (cell q').2
  cv:=λJ hp=>have z:=fb hp;(F.cv (fa z.1) z.2).elim λc y=>y.elim λv y=>⟨c,v,has z.1 y.1,yM y.2.1 λo=>hold,y.2.2⟩
  cl:=λhk=>hk.elim (λhk=>absurd rfl (nm hk).1) λhk=>have hy:=(nm hk).2 rfl;(F.cl (fa hy)).elim λc z=>⟨c,has hy z⟩ }
end
end
section
open PySem.SeqAt
section
variable{w:World}{f t:Cf}{sc jG:Scope}{m:Sm}{env:Env}{sl:Sl}{X Y:Em}{jt:AH}{s s' s₁:Shared}{P:PV->AH->Prop}{Q:Value->Shared->Prop}{E:Value->Shared->Prop}{x it:Internal.X}{e iter:Expr}{ifs:List Expr}{pos CF:Pos}{i k:Nat}{v u:Value}{p:PV}{a I D:Addr}{h:Heap}{o:Obj}
theorem Ext.none(e:Ext X s no Y s')(B:Base w Y η s'.heap)(h:s'.heap.get? a=none):s.heap.get? a=none:=xo _ id λo q=>xm ((e.keep a o q (λt=>(B.QR (e.le.trk t)).elim λJ q=>xm (q.symm.trans h)) id).symm.trans h)
theorem Uw(h:B6 e=true)(x:Value):foldedSetIterable e env x=pure x:=by
 cases e<;>first|rfl|exact xf h
theorem Ux{q:Sm×List Nat×List Nat}{Uy:AO}{xs:Xs}{Uz:Sem Value}{em:Addr->Env->Sem Unit}{EM:AH->Sl->AH->(AH->Prop)->Prop}{use:Option (Value->Sem Unit)}(H:ly w n f)(T:oN w n t)
  (hcl:clausesOf e=[⟨tg,iter,ifs,0⟩]) (Kh:∀I D mw,compTurn e 0 (.ref I) (.ref D) mw=Ai e (em D mw) tg iter ifs (.ref I) (.ref D) mw)
  (Km:∀I D mw,(ew e 0 (.ref I) (.ref D) mw).isFrame=false) (Ko:∀A I D mw,Around.under A (ew e 0 (.ref I) (.ref D) mw)=A)
  (ahj:∀{it acc mw s} {P:Result->Shared->Prop},codeAny (model pw w) A (.compLoop e 0 it acc mw) P s->wpAny (model pw w) A (pyIter it) (λit' s'=>codeAny (model pw w) A (.compLoop e 0 it' acc mw) P s') (notedBy (model pw w) A mw λx s'=>P (.error x) s') s->codeAny (model pw w) A (.compStart e 0 it acc mw) P s)
  (Ak:∀{Y:Em} {lW:Shared} {η:AH} {Q:Value->Shared->Prop} {E:Value->Shared->Prop},Base w Y η lW.heap->(∀{v s'},GE w Y lW (η.add Uy) (.ref η.reg η.ju) v s'->Q v s')->wpAny (model pw w) A Uz Q E lW)
  (CD:∀{η:AH} {D mw},CC w n A jG q.1 mw D η.reg η.ju (em D mw) (EM η))
  (hc:ED jG=true) (uz:B6 iter=true) (h1:f sc m iter=some it) (h2:xJ sc m (J2 m) jG.names=some q) (ho:xG q.1=true) (ht:wB jG q.1 tg=some nW) (hi:oM (t jG q.1) ifs=some xs) (C:At w n X η sc m env sl s A)
  (hw:W n it sl η λiv η=>∃S,t6 iv η=some S/\allB sl q.2.2=true/\pH (TL n xs) (EM η) nW S (S.len η+1) 0 (clear sl q.2.1) (η.add Uy) λjt=>P (.ref η.reg η.ju) jt)
  (hQ:∀{D K s' Z p jt},s.heap.get? K=none->Ext X s no Z s'->At w n Z jt sc m env sl s' A->VR Z (.ref D) p->¬ Z.lq K->(∃m,s'.heap.Ns K m)->P p jt->compPost (model pw w) A E use Q (.ref D) K (.ok .next) s') :
  wpAny (model pw w) A (comprehension e jG env CF Uz false (eval iter env) use) Q E s:=by
 have fa:∀{y},nR jG.names y=true->kindS sc y=some .cell\/kindS sc y=some .free:=λhy=>((Ur (sl:=sl) h2).1 hy).1
 refine xb hc λc c3=>xb c λJ c2=>?_
 have nm:∀x∈jG.names,x.2≠.cell/\kindS jG x.1=some x.2:=λx hx=>xb (aI.mp c3 _ hx) λa b=>⟨of_decide_eq_false ((cM _).mp a),of_decide_eq_true b⟩
 have c2:=of_decide_eq_true c2
 refine wpAny_comprehension_free hcl (Uw uz) (aha λhy=>C.F.cl (fa hy)) c2 (λx hx e=>(xB ..).symm.trans (e▸(nm x hx).2)) (H.go h1 C hw λ{v s1 Y iv FG} e1 C1 r1 hw=>hw.elim λS z=>Uk C1.B r1 z.1 λ{ob} hit=>?_)
 have nI:=bJ (h:=s1.heap) (ak _)
 have tI:=C1.B.Ey nI
 have yW:=e1.none C1.B nI
 revert hit nI tI yW
 generalize s1.heap.objs.size=I
 intro hit nI tI yW
 refine Ak (C1.B.push ob) λ{acc s3} g=>g.casesOn λ{Z} e3 B3 r3=>vR r3 λD hD=>?_
 have Ku:=(e1.trans (.push (t:=s1.toks) ..)).trans e3
 refine wpAny_newFunctionEnv (λx hx=>(nm x hx).1) (by intro y hy;simp at hy) (λh' ahk ahl=>?_) c2
 have hK:=bJ (h:=s3.heap) (ak _)
 have tK:=B3.Ey hK
 have hold:∀{a o},s3.heap.get? a=some o->h'.get? a=some o:=λho=>(ahl.2 _ (bI (cH ho))).trans (bS _ ho)
 have UA:=Ku.none B3 hK
 have UB:pe Z h' I 0 S:=hit.mono e3.le λo ho=>hold (e3.keep I o ho tI id)
 have tI4:¬ Z.lq I:=hit.elim λo y=>e3.off y.1 tI
 have F4:=ahh (env:=env) (C:=s3.heap.objs.size) (C.F.ext Ku) hc fa (λg=>ahc h2 g) ahk hold tK hK
 have e4:Ext X s no Z { s3 with heap:=h',toks:=s3.toks+0 }:=Ku.trans (.grow (λJ J=>hold) rfl rfl)
 have loop:=ag8 (E0:=e4) (R:=compPost (model pw w) A E use Q (.ref D) s3.heap.objs.size) yW (λa o ho J q=>q.elim (λq=>xm (ho.symm.trans (q▸UA))) λq=>q.elim λy q=>absurd rfl (nm _ (uf q.1)).1)
  (λq=>q.elim (λq=>hit.elim λo y=>xm ((e3.keep I o y.1 tI id).symm.trans (q▸hK))) λq=>q.elim λy q=>(C.F.ce (Uv C.F fa q).2).2.2.elim λv z=>z.elim λo z=>xm (z.1.symm.trans yW)) ht
  ⟨B3.move λJ=>hold,F4,C.R,ho⟩ UB tI4 T CD hi hD (Kh I D _) (Km I D _) (Ko A I D _) z.2.2 λe C' hD h=>hQ UA e (C.next e C'.B) (.ref hD) C'.F.ut (C'.F.ns.elim λm z=>⟨m,z.1⟩) h
 exact ahj loop (Ul (s:={ s3 with heap:=h',toks:=s3.toks+0 }) UB loop)
theorem ahm(h:xt r i p η=some jt)(B:Base w X η s.heap)(hD:X.ad r i false=some D)(rv:VR X v p)(q:∀{v s'},Ext X s no X s'->Base w X jt s'.heap->Q v s'):wpAny (model pw w) A (call (.builtin "list.append") [.ref D,v]) Q E s:=
 jz h λl g h=>xc h λc h=>xN B (.ref hD) g λvs n ea e rs=>call_meets PySem.F.slot_list_append ⟨_,e,rfl⟩ PySem.F.entry_list_append (PySem.F.args_list_append_2 _ _) (list_append D vs.toArray n v (xO rs c (aW _))) ⟨e,jP (Fz (us:=vs++[v]) B (wg g) ea e (λxs=>xs.push v) (by simp) (rs.append (.cons rv .nil))) λE1 B1=>q E1 (ai h▸B1)⟩
theorem ahn(H:ly w n f)(h:f sc m elt=some x){mw:Env}:CC w n A sc m mw D r i (Kd elt (.ref D) mw) λe' jt Q'=>W n x e' jt λv lC=>∃jD,xt r i v lC=some jD/\Q' jD:=
 λhw C hD q=>wpAny_bind (H.go h C hw λe1 C1 r1 hw=>hw.elim λjD z=>wpAny_bind (ahm z.1 C1.B (e1.le.ad hD) r1 λe2 B2=>wpAny_pure (q (e1.trans e2) (C1.next e2 B2) z.2)))
theorem aho(H:ly w n f){y:Internal.X}(h1:f sc m kx=some x)(h2:f sc m vx=some y){mw:Env}:CC w n A sc m mw D r i (Kg kx vx D mw) λe' jt Q'=>W n x e' jt λkv lC=>W n y e' lC λv jD=>yC (jD.get r i)=true/\∃jV,nv (.ref r i) kv v jD=some jV/\Q' jV:=
 λ{_ _ _ s _ _ _} hw C hD q=>wpAny_bind (H.go h1 C hw λe1 C1 r1 hw=>wpAny_bind (wpAny_holding (H.go h2 C1 hw λ{_ s2 _ _ _} e2 C2 r2 hw=>wpAny_bind (wpAny_standAt (wpAny_holding (hw.2.elim λjV z=>jz (show ((_:AH).get r i).bind _=some _ from z.1) λo g J=>af1 (g▸hw.1) g z.1 (e2.le.ad (e1.le.ad hD)) (r1.mono e2.le) r2 C2.B λe3 B3=>q ((e1.trans e2).trans e3) (C2.next e3 B3) z.2))))))
theorem ahp{target:Expr}{scope:Scope}(I D:Addr)(env:Env):
  compTurn (.ListComp elt [⟨target,iter,ifs,0⟩] scope pos) 0 (.ref I) (.ref D) env=Ai (.ListComp elt [⟨target,iter,ifs,0⟩] scope pos) (Kd elt (.ref D) env) target iter ifs (.ref I) (.ref D) env:=by rfl
theorem ahq{target:Expr}{scope:Scope}(I D:Addr)(env:Env):
  compTurn (.DictComp kx vx [⟨target,iter,ifs,0⟩] scope pos) 0 (.ref I) (.ref D) env=Ai (.DictComp kx vx [⟨target,iter,ifs,0⟩] scope pos) (Kg kx vx D env) target iter ifs (.ref I) (.ref D) env:=by rfl
theorem UC{gs:List Comprehension}{mk:Sm->Tg->Internal.X->Xs->List Nat->List Nat->Option Internal.X}{M:List Comprehension->Prop}(h:J3 f t sc m gs jG mk=some x)
  (k:∀{tg iter ifs it q nW xs},ED jG=true->B6 iter=true->f sc m iter=some it->xJ sc m (J2 m) jG.names=some q->xG q.1=true->wB jG q.1 tg=some nW->oM (t jG q.1) ifs=some xs->mk q.1 nW it xs q.2.2 q.2.1=some x->M [⟨tg,iter,ifs,0⟩]):M gs:=by
 cases gs with
|nil=>exact xn h
|cons g gs=>cases gs with
 |cons _ _=>exact xn h
 |nil=>
   refine jz h λg' hg h=>xc hg λc hg=>?_
   obtain rfl:=ai hg
   obtain ⟨tg,iter,ifs,ia⟩:=g
   obtain rfl:ia=0:=of_decide_eq_true c
   exact xc h λc h=>xb c λc1 c2=>jz h λit h1 h=>jz h λq h2 h=>xc h λc3 h=>jz h λnW h3 h=>jz h λxs h4 h=>k c1 c2 h1 h2 c3 h3 h4 h
abbrev Kc(w:World)(n:Nat)(X:Em)(sc:Scope)(m:Sm)(env:Env)(sl:Sl)(s:Shared)(A:Around)(P:PV->AH->Prop)(E:Value->Shared->Prop)(use:Option (Value->Sem Unit))(Q:Value->Shared->Prop):Prop:=
 ∀{D K s' Z p jt},s.heap.get? K=none->Ext X s no Z s'->At w n Z jt sc m env sl s' A->VR Z (.ref D) p->¬ Z.lq K->(∃m,s'.heap.Ns K m)->P p jt->compPost (model pw w) A E use Q (.ref D) K (.ok .next) s'
section
variable{use:Option (Value->Sem Unit)}(H:ly w n f)(T:oN w n t){gs:List Comprehension}(C:At w n X η sc m env sl s A)(hw:W n x sl η P)(hQ:Kc w n X sc m env sl s A P E use Q)
include H T C hw hQ
theorem Kv(h:J4 f t sc m elt gs jG=some x):wpAny (model pw w) A (comprehension (.ListComp elt gs jG pos) jG env CF (newList []) (firstAsync gs) (firstIter gs env) use) Q E s:=
 UC (M:=λgs=>wpAny (model pw w) A (comprehension (.ListComp elt gs jG pos) jG env CF (newList []) (firstAsync gs) (firstIter gs env) use) Q E s) h λc1 c2 h1 h2 ho ht hi h=>jH h λy h3 e=>Ux (em:=λD=>Kd elt (.ref D)) H T rfl ahp (λJ J J=>rfl) (λJ J J J=>rfl) (λa b=>codeAny_compStart_list a b) (λ{_ lW _ _ _} B q=>wpAny_newObj_type (q (Cg (vs:=[]) (n:=0) (t:=lW.toks) B .nil))) (ahn H h3) c1 c2 h1 h2 ho ht hi C (wx e hw :) hQ
theorem Kw(h:J5 f t sc m kx vx gs jG=some x):wpAny (model pw w) A (comprehension (.DictComp kx vx gs jG pos) jG env CF newDict (firstAsync gs) (firstIter gs env) use) Q E s:=
 UC (M:=λgs=>wpAny (model pw w) A (comprehension (.DictComp kx vx gs jG pos) jG env CF newDict (firstAsync gs) (firstIter gs env) use) Q E s) h λc1 c2 h1 h2 ho ht hi h=>jz h λy h3 h=>jH h λz h4 e=>Ux (em:=λD=>Kg kx vx D) H T rfl ahq (λJ J J=>rfl) (λJ J J J=>rfl) (λa b=>codeAny_compStart_dict a b) (λ{_ lW _ _ _} B q=>wpAny_newObj_type (q (Rj (t:=lW.toks) B))) (aho H h3 h4) c1 c2 h1 h2 ho ht hi C (wx e hw :) hQ
end
theorem FH(C:At w n X η sc m env sl s A)(k:Kx w n X sc m env sl s A P Q):Kc w n X sc m env sl s A P E none Q:=λ{_ _ s' _ _ _} hK e C' r t hm hp=>hm.elim λms hm=>⟨ms,hm,λh' hs=>have e1:=e.but (t:=s'.toks) hK hs.extBut;k e1 (C.next e1 (C'.B.extBut t hs.extBut)) r hp⟩
end
end
section
open PySem.SeqAt
section
variable{w:World}{f t:Cf}{sc:Scope}{m:Sm}{env:Env}{sl:Sl}{X Y:Em}{jt:AH}{s s':Shared}{P:PV->AH->Prop}{Q:Value->Shared->Prop}{E:Value->Shared->Prop}{x:Internal.X}{e:Expr}{es args:List Expr}{pos:Pos}
theorem ahr{M:PV->Prop}{fv:PV}(h:callee tab fv=true)(r:∀a,(jL tab.pV a).isSome=true\/(jL tab.oU a).isSome=true->M (.st (.ref a)))(b:∀id,M (.st (.builtin id)))(t:∀id,M (.st (.type id))):M fv:=by
 induction fv using PV.casesOn with
|st v=>
  induction v using Value.casesOn with
 |ref a=>exact r a ((bC ..).mp h)
 |builtin id=>exact b id
 |«type» id=>exact t id
 |_=>exact xf h
|_=>exact xf h
theorem ahs{fv:PV}{v:Value}(G:Good w tab)(h:callee tab fv=true)(r:VR X v fv):keepIn (Kf w.params) v=true\/(∃id,v=.builtin id)\/∃id,v=.type id:=
 ahr (M:=λfv=>VR X v fv->keepIn (Kf w.params) v=true\/(∃id,v=.builtin id)\/∃id,v=.type id) h (λa h r=>vT r λJ=>.inl (h.elim (λh=>(cz.mp h).elim λJ h=>G.k h) λh=>(cz.mp h).elim λJ h=>G.ki h)) (λid r=>vT r λJ=>.inr (.inl ⟨id,rfl⟩)) (λid r=>vT r λJ=>.inr (.inr ⟨id,rfl⟩)) r
theorem aht{fv:PV}(h:xK x=some fv):x=.k fv:=by
 induction x using X.casesOn with
|k v=>exact congrArg Internal.X.k (ai h)
|_=>exact xn h
theorem ahu{g:Str}{p:Pos}(G:Good w tab)(H:ly w n f)(h:((Ab tab sc m g).bind λx=>(xK x).bind λfv=>cond (callee tab fv) ((oM (f sc m) args).map λas=>.call fv as) none)=some x)(C:At w n X η sc m env sl s A)(hw:W n x sl η P)(k:Kx w n X sc m env sl s A P Q):wpAny (model pw w) A (eval (.Call (.Name g p) args [] pos) env) Q E s:=
 jz h λgx hg h=>jz h λfv hx h=>xc h λhc h=>jH h λas ha e=>wpAny_Call_ofName (J6 G (hg.trans (congrArg some (aht hx))) C (P:=λv jt=>v=fv/\WL n as sl jt λvs η=>jw n fv vs η P) ⟨rfl,(wx e hw :)⟩ λe1 C1 r1 hw=>
  have r1:=hw.1▸r1
  Fy (ahs G hc r1) H ha C1 hw.2 λe2 C2 rs hc=>hc G C2.B (r1.mono e2.le) rs C2.R λe3 B3 r3 q=>k ((e1.trans e2).trans e3) (C2.next e3 B3) r3 q)
theorem ahv{g:Expr}(G:Good w tab)(H:ly w n f)(h:TH tab f sc m g args pos=some x)(C:At w n X η sc m env sl s A)(hw:W n x sl η P)(k:Kx w n X sc m env sl s A P Q):wpAny (model pw w) A (eval (.Call g args [] pos) env) Q E s:=by
 induction g using PySem.Expr.casesOn with
|Attribute o nm apos=>exact xc h λc h=>agZ G H c h C hw k
|Name g p=>exact ahu G H h C hw k
|_=>exact xn h
theorem Ky(T:oN w n f){op:BoolOp}:∀{es:List Expr} {x:Internal.X} {X:Em} {η:AH} {s:Shared} {R:Bool->AH->Prop} {Q:Bool->Shared->Prop},cBool (f sc m) op es=some x->At w n X η sc m env sl s A->W n x sl η P->(∀{u η},P u η->∃b,ng u η=some b/\R b η)->Kt w n X sc m env sl s A R Q->wpAny (model pw w) A (allTrue op es env) Q E s
|[],_,_,_,_,_,_,h,_,_,_,_=>xn h
|[e],x,X,η,s,R,Q,h,C,hw,hR,q=>wpAny_bind (T h C hw hR λ{b _ _ _} e1 C1 hr=>by
  have:=q e1 C1 hr
  cases op<;>cases b<;>exact wpAny_pure this)
|e::g::es,x,X,η,s,R,Q,h,C,hw,hR,q=>jz h λa h1 h=>jH h λb h2 e'=>wpAny_bind (T (R:=λt η=>(t=J1 op->W n b sl η P)/\(t=!J1 op->R t η)) h1 C (wx e' hw :) (λh=>h.elim λt z=>⟨t,z.1,z.2.1,λht=>(hR (z.2.2 ht)).elim λb y=>ai (y.1.symm.trans z.1)▸y.2⟩) λ{b _ _ _} e1 C1 hr=>by
  cases op<;>cases b
  ·exact wpAny_pure (q e1 C1 (hr.2 rfl))
  ·exact Ky T h2 C1 (hr.1 rfl) hR λe2=>q (e1.trans e2)
  ·exact Ky T h2 C1 (hr.1 rfl) hR λe2=>q (e1.trans e2)
  ·exact wpAny_pure (q e1 C1 (hr.2 rfl)))
theorem UD{op:UnaryOp}(h:TG op=true):op=.Not:=by
 cases op<;>first|rfl|exact xf h
theorem ahw(G:Good w tab)(H:ly w n f)(T:oN w n t)(h:cE tab f t sc m e=some x)(C:At w n X η sc m env sl s A)(hw:W n x sl η P)(k:Kx w n X sc m env sl s A P Q):wpAny (model pw w) A (eval e env) Q E s:=by
 induction e using PySem.Expr.casesOn with
|Constant c a b=>exact agb h C hw k
|Name y p=>exact J6 G h C hw k
|BoolOp op vs p=>exact J7 H op h C hw k
|BinOp l op r p=>exact agc H h C hw k
|UnaryOp op y p=>exact xc h λc h=>UD c▸age H h C hw k
|IfExp c a b p=>exact agf H T h C hw k
|Dict ks vs p=>exact mY h (λc h=>xc h λc2 h=>dS.mp c▸dS.mp c2▸wpAny_Dict_empty ((Rj (t:=s.toks) C.B).casesOn λe1 B1 r1=>k e1 (C.next e1 B1) r1 (wx (ai h) hw :))) λc h=>xc h λc2 h=>agy H c c2 h C hw k
|List es p=>exact agg H h C hw k
|Tuple es c p=>exact agh H h C hw k
|ListComp elt gs jG p=>exact Kv H T C hw (FH C k) h
|DictComp a b gs jG p=>exact arm_eval_DictComp ..▸Kw H T C hw (FH C k) h
|Compare l ops rs p=>exact jz h λop h1 h=>jz h λr h2 h=>xD h1▸xD h2▸mY h (λJ h=>xn h) λc h=>agd H c h C hw k
|Call g as ks p=>exact xc h λc h=>dS.mp c▸ahv G H h C hw k
|Attribute v a p=>exact xc h λc h=>agi G H c h C hw k
|Subscript v i p=>exact agu G H h C hw k
|_=>exact xn h
theorem ahx(h:cE tab f t sc m e=some x):isStar e=false:=by
 induction e using PySem.Expr.casesOn with
|Starred _ _=>exact xn h
|_=>rfl
theorem ahy{R:Bool->AH->Prop}{Q:Bool->Shared->Prop}(H:ly w n f)(h:f sc m e=some x)(he:isTrue e env (eval e env)=(do let v <-eval e env;standAt e.pos;holding [v] (truthy v)))(C:At w n X η sc m env sl s A)(hw:W n x sl η P)(hR:∀{u η},P u η->∃b,ng u η=some b/\R b η)(q:Kt w n X sc m env sl s A R Q):wpAny (model pw w) A (isTrue e env (eval e env)) Q E s:=
 wpAny_isTrue_value (H.go h C hw λe1 C1 r1 hp=>(hR hp).elim λb z=>Jx z.1 C1.B r1 λt=>q (e1.trans (.tok ..)) C1.tok z.2) he
theorem ahz(G:Good w tab)(H:ly w n f)(HT:oN w n f)(T:oN w n t)(HE:ly w n (cE tab f t)):oN w n (cE tab f t):=by
 intro sc m e x h env sl A X η s P R Q E C hw hR q
 induction e using PySem.Expr.casesOn with
|UnaryOp op y p=>exact xc h λc h=>UD c▸jH h λa h e=>wpAny_isTrue_Not (HT (R:=λb η=>R (!b) η) h C (wx e hw :) (λz=>z.elim λb z=>⟨b,z.1,(hR z.2).elim λb' y=>ai y.1▸y.2⟩) q)
|BoolOp op vs p=>exact wpAny_isTrue_BoolOp (Ky HT h C hw hR q)
|IfExp c a b p=>exact jz h λc' h1 h=>jz h λa' h2 h=>jH h λb' h3 e=>isTrue_IfExp (T (R:=λc η=>(c=true->W n a' sl η P)/\(c=false->W n b' sl η P)) h1 C (wx e hw :) id λ{b _ _ _} e1 C1 hw=>match b,hw with
 |true,hw=>HT h2 C1 (hw.1 rfl) hR λe2=>q (e1.trans e2)
 |false,hw=>HT h3 C1 (hw.2 rfl) hR λe2=>q (e1.trans e2))
|Compare l ops rs p=>exact jz h λop h1 h=>jz h λr h2 h=>xD h1▸xD h2▸mY h (λJ h=>xn h) λc h=>jz h λa h3 h=>jH h λb h4 e=>wpAny_isTrue_Compare1 (H.go h3 C (wx e hw :) λe1 C1 r1 hw=>H.go h4 C1 hw λe2 C2 r2 hw=>hw.elim λc z=>RC z.1 (r1.mono e2.le) r2 C2.B C2.R.cm λt=>wpAny_truthy_bool ((hR z.2).elim λb' y=>q ((e1.trans e2).trans (.tok ..)) C2.tok (ai y.1▸y.2))) c
|_=>exact ahy HE h rfl C hw hR q
theorem UE:ly w n Fu/\oN w n Fu:=⟨⟨λh=>xn h,λh=>xn h⟩,λh=>xn h⟩
theorem Kz(G:Good w tab):∀k,(ly w n (Fv tab k)/\oN w n (Fv tab k))/\ly w n (Fw tab k)/\oN w n (Fw tab k)
|0=>⟨UE,UE⟩
|k+1=>
  have ih:=Kz G k
  have HE:ly w n (cE tab (Fv tab k) (Fw tab k)):=⟨λh=>ahw G ih.1.1 ih.2.2 h,ahx⟩
  ⟨⟨HE,ahz G ih.1.1 ih.1.2 ih.2.2 HE⟩,ih.1⟩
end
end
section
open PySem.SeqAt
abbrev UG(w:World)(n:Nat)(X:Em)(sc:Scope)(m:Sm)(env:Env)(s:Shared)(A:Around)(P:Sl->AH->Prop)(Q:Unit->Shared->Prop):Prop:=∀{s' Y lD jt},Ext X s (own sc env) Y s'->At w n Y jt sc m env lD s' A->P lD jt->Q () s'
noncomputable abbrev yX(q:Str×Pos):Expr:=.Name q.1 q.2
section
variable{w:World}{f t:Cf}{sc:Scope}{m:Sm}{env:Env}{sl lD:Sl}{X Y:Em}{jt:AH}{s s':Shared}{P:Sl->AH->Prop}{Q:Unit->Shared->Prop}{E:Value->Shared->Prop}{x:Internal.X}{e:Expr}{es args:List Expr}{pos:Pos}{v:Value}{p:PV}{vs:List Value}{l:List PV}{a:Addr}
theorem Al{M:Expr->Tt->Prop}{t:Tt}(h:yT f sc m e=some t)(nm:∀{y q i},t7 sc y=true->jv m y=some i->M (.Name y q) (.loc i))(at_:∀{o a q y},f sc m o=some y->M (.Attribute o a q) (.nj y a))(it:∀{o i q y z},isSlice i=false->f sc m o=some y->f sc m i=some z->M (.Subscript o i q) (.nZ y z)):M e t:=by
 induction e using PySem.Expr.casesOn with
|Name y q=>exact xc h λc h=>jH h λi hi e=>e▸nm c hi
|Attribute o a q=>exact jH h λy hy e=>e▸at_ hy
|Subscript o i q=>exact mY h (λJ h=>xn h) λc h=>jz h λy h1 h=>jH h λz h2 e=>e▸it c h1 h2
|_=>exact xn h
theorem KD{t:Tt}(h:yT f sc m e=some t):assignEach (e::es) env=(false,assign e env)::assignEach es env:=
 Al (M:=λe J=>assignEach (e::es) env=(false,assign e env)::assignEach es env) h (λJ J=>rfl) (λJ=>rfl) λJ J J=>rfl
theorem UH{t:Tt}(G:Good w tab)(H:ly w n f)(h:yT f sc m e=some t)(C:At w n X η sc m env sl s A)(rv:VR X v p)(hw:Wt n t p sl η P)(q:UG w n X sc m env s A P Q):wpAny (model pw w) A (assign e env v) Q E s:=by
 refine Al (M:=λe t=>Wt n t p sl η P->wpAny (model pw w) A (assign e env v) Q E s) h ?_ ?_ ?_ hw
 ·exact λc hi hw=>wpAny_assign_Name (C.bind c hi rv λe1 C1=>q e1 C1 hw)
 ·exact λhy hw=>arm_assign_Attribute ..▸wpAny_bind (wpAny_holding (H.go hy C hw λ{u s1 _ _ _} e1 C1 r1 hw=>wpAny_bind (wpAny_standAt (wpAny_bind (wpAny_holding (hw.elim λjD z=>RL G.f z.1 r1 (rv.mono e1.le) C1.B λE2 B2=>wpAny_release (have e2:=e1.trans E2;q e2.up (C.next e2 B2) z.2)))))))
 ·exact λhs h1 h2 hw=>arm_assign_Subscript ..▸wpAny_bind (wpAny_holding (H.go h1 C hw λe1 C1 r1 hw=>wpAny_bind (wpAny_holding (H.go h2 C1 hw λe2 C2 r2 hw=>wpAny_bind (wpAny_standAt (wpAny_bind (wpAny_holding (hw.elim λjD z=>have Am:=e1.trans e2;af0 z.1 (r1.mono e2.le) r2 (rv.mono Am.le) C2.B λE3 B3=>wpAny_release (have e3:=Am.trans E3;q e3.up (C.next e3 B3) z.2)))))))))
theorem stN(G:Good w tab)(H:ly w n f):∀{qb:List Tt} {vs:List Value} {l:List PV} {sl:Sl} {η:AH} {X:Em} {s:Shared} {Q:Unit->Shared->Prop},Ae f sc m ts=some qb->ux n qb l sl η P->At w n X η sc m env sl s A->jI X vs l->UG w n X sc m env s A P Q->wpAny (model pw w) A (assignInOrder ((assignEach ts env).map (·.2)) vs) Q E s:=by
 induction ts with
|nil=>
  intro qb vs l sl η X s Q h hw C rs q
  obtain rfl:=ai h
  cases l with
 |nil=>exact o7 (R:=λvs=>wpAny (model pw w) A (assignInOrder ((assignEach [] env).map (·.2)) vs) Q E s) rs (wpAny_pure (q (.refl ..) C hw))
 |cons _ _=>exact hw.elim
|cons e ts ih=>
  refine λ{qb vs l sl η X s Q} h hw C rs q=>jz h λt h1 h=>jH h λUI h2 h3=>?_
  have hw:=(show ux n (t::UI) l sl η P from h3▸hw)
  cases l with
 |nil=>exact hw.elim
 |cons p l=>exact KD h1▸m8 (R:=λvs=>wpAny (model pw w) A (assignInOrder (((false,assign e env)::assignEach ts env).map (·.2)) vs) Q E s) rs λv us r rs=>wpAny_bind (wpAny_holding (UH G H h1 C r hw λe1 C1 hw=>ih h2 hw C1 (rs.mono e1.le) λe2=>q (e1.trans e2)))
theorem ahA:∀{qb:List Tt},Ae f sc m ts=some qb->(assignEach ts env).length=qb.length/\(assignEach ts env).findIdx? (·.1)=none:=by
 induction ts with
|nil=>exact λh=>ai h▸⟨rfl,rfl⟩
|cons e ts ih=>exact λh=>jz h λt h1 h=>jH h λUI h2 h3=>h3▸KD h1▸⟨congrArg (·+1) (ih h2).1,iM.trans ((congrArg (Option.map (·+1)) (ih h2).2).trans rfl)⟩
theorem ahB{i:Nat}{u v:Option PV}(h:i≠j):∀{sl:Sl},put (put sl i u) j v=put (put sl j v) i u:=by
 induction i generalizing j with
|zero=>exact λ{sl}=>match sl,j,h with
 |[],_,_=>rfl
 |_::_,0,h=>absurd rfl h
 |_::_,j+1,_=>rfl
|succ i ih=>exact λ{sl}=>match sl,j,h with
 |[],_,_=>rfl
 |_::_,0,_=>rfl
 |a::r,j+1,h=>congrArg (a::·) (ih (λe=>h (congrArg (·+1) e)))
theorem ahC{i:Nat}{u:Option PV}{is:List Nat}(h:i∉is):∀{l:List PV} {sl:Sl},sY is l (put sl i u)=(sY is l sl).map (put · i u):=by
 induction is with
|nil=>exact λ{l}=>match l with
 |[]=>rfl
 |_::_=>rfl
|cons j is ih=>exact λ{l sl}=>match l with
 |[]=>rfl
 |v::l=>(congrArg (sY is l) (ahB λe:i=j=>h (e▸bL ..))).trans (ih λe=>h (bu _ e))
theorem ahD{qs:List (Str×Pos)}:∀{is:List Nat},xH sc m (qs.map yX)=some is->∀{i},i∈is->∃y,y∈qs.map (·.1)/\jv m y=some i:=by
 induction qs with
|nil=>exact λh J hi=>absurd (ai h▸hi) aU
|cons q qs ih=>exact λ{_} h {k} hi=>jz h λy h1 h=>xc h λc h=>jz h λi h2 h=>jH h λCz h3 h4=>(aB.mp (show k∈i::Cz from h4▸hi)).elim (λe=>⟨y,(ai h1:q.1=y)▸bL ..,e▸h2⟩) λe=>(ih h3 e).elim λy z=>⟨y,bu _ z.1,z.2⟩
theorem ahE{qs:List (Str×Pos)}:∀{is:List Nat} {vs us:List Value} {l:List PV} {sl lD:Sl} {s:Shared} {fs:List (Value->Sem Unit)} {Q:Unit->Shared->Prop},xH sc m (qs.map yX)=some is->(qs.map (·.1)).Nodup->sY is l sl=some lD->At w n X η sc m env sl s A->jI X vs l->
  (∀{s'},Ext X s (own sc env) X s'->At w n X η sc m env lD s' A->wpAny (model pw w) A (assignInOrder fs us) Q E s')->wpAny (model pw w) A (assignInOrder ((qs.map (·.1)).reverse.map (λy=>bindName env y)++fs) (vs.reverse++us)) Q E s:=by
 induction qs with
|nil=>
  intro is vs us l sl lD s fs Q h nd hp C rs q
  obtain rfl:=ai h
  cases l with
 |nil=>exact o7 (R:=λvs=>wpAny (model pw w) A (assignInOrder fs (vs.reverse++us)) Q E s) rs (q (.refl ..) (ai hp▸C))
 |cons _ _=>exact xn hp
|cons a qs ih=>
  refine λ{is vs us l sl lD s fs Q} h nd hp C rs q=>jz h λy h1 h=>xc h λc h=>jz h λi h2 h=>jH h λCz h3 h4=>?_
  have nd:=bw.mp nd
  obtain rfl:=ai h1
  cases l with
 |nil=>exact xn (h4▸hp)
 |cons p l=>
   have hp:=(ahC λe=>(ahD h3 e).elim λy z=>nd.1 (show a.1∈_ from Un C.o h2 z.2▸z.1)).symm.trans (show sY Cz l (put sl i (some p))=some lD from (h4▸hp :))
   refine jH hp λapB hp e=>m8 (R:=λvs=>wpAny (model pw w) A (assignInOrder (((a::qs).map (·.1)).reverse.map (λy=>bindName env y)++fs) (vs.reverse++us)) Q E s) rs λv vs r rs=>?_
   rw [bT,ek,aV,bQ,ek,bQ]
   exact ih h3 nd.2 hp C rs λe1 C1=>wpAny_bind (wpAny_holding (wpAny_bindName (C1.bind c h2 r λe2 C2=>q (e1.trans e2) (e▸C2))))
theorem UJ:∀(k:Nat) (l:List Str),l.length<=k->l.eraseDups.length<=l.length/\(l.eraseDups.length=l.length->l.Nodup)
|_,[],_=>⟨ak _,λJ=>.nil⟩
|0,_::_,h=>absurd h (gu _)
|k+1,a::l,h=>by
  have f:=bV (λb=>!b == a) l
  have ih:=UJ k (l.filter λb=>!b == a) (ah f (eH h))
  rw [List.eraseDups_cons,aZ,aZ]
  refine ⟨aL (ah ih.1 f),λe=>?_⟩
  have e:=dQ e
  have e2:l.filter (λb=>!b == a)=l:=gv.mpr (List.length_filter_eq_length_iff.mp (eU f (e▸ih.1)))
  rw [e2] at ih e
  exact bw.mpr ⟨λhm=>xf (beq_self_eq_true a▸gv.mp e2 a hm:(!(true:Bool))=true),ih.2 e⟩
theorem UK{F:Expr->Option Str}(hF:∀{t y},F t=some y->∃q,t=.Name y q):∀{ts:List Expr},(ts.filterMap F).length=ts.length->∃qs:List (Str×Pos),ts=qs.map yX/\ts.filterMap F=qs.map (·.1)
|[],_=>⟨[],rfl,rfl⟩
|e::ts,h=>xo (F e) (λc=>by
   rw [List.filterMap_cons_none c] at h
   exact absurd (h▸iN F ts) (iO _)) λy c=>by
   rw [List.filterMap_cons_some c] at h ⊢
   exact (hF c).elim λq e1=>(UK hF (dQ h)).elim λqs z=>⟨(y,q)::qs,by rw [e1,z.1];rfl,congrArg (y::·) z.2⟩
theorem An{α:Type _}{M:α->Prop}{c:Prop}[Decidable c]{a b:α}(t:c->M a)(f:¬ c->M b):M (if c then a else b):=by
 by_cases h:c
 ·rw [if_pos h];exact t h
 ·rw [if_neg h];exact f h
def Ao(ts:List Expr)(m:Sem (Option (List Str))):Prop:=m=pure none\/∃qs:List (Str×Pos),m=pure (some (qs.map (·.1)))/\ts=qs.map yX/\(qs.map (·.1)).Nodup
theorem swapped{c:Nat}(h:Jp e=true):Ao ts (swappedStores [.Tuple ts c pos] e env):=by
 induction e using PySem.Expr.casesOn with
|Tuple vs k q=>
  have h:(!(vs.all (constantsAlone 8)) || vs.all (foldedForSure 8))=true:=h
  unfold swappedStores
  dsimp only
  refine An (M:=Ao ts) (λJ=>.inl rfl) λc1=>?_
  refine An (M:=Ao ts) (λJ=>.inl rfl) λJ=>?_
  refine An (M:=Ao ts) (λJ=>.inl rfl) λc2=>?_
  refine An (M:=Ao ts) (λJ=>.inl rfl) λc3=>?_
  refine An (M:=Ao ts) (λc4=>?_) λJ=>.inr ?_
  ·rw [c4,fu.mpr c3] at h
   exact nomatch h
  ·rw [bC,not_or,bne_iff_ne,bne_iff_ne,iP,iP] at c2
   refine (UK (λ{t y} hy=>?_) c2.1).elim λqs z=>⟨qs,congrArg (λl=>pure (some l)) z.2,z.1,z.2▸(UJ _ _ (ak _)).2 c2.2⟩
   induction t using PySem.Expr.casesOn with
  |Name y' q=>exact An (M:=λm=>m=some y->∃q,Expr.Name y' _=.Name y q) (λJ h=>ai h▸⟨_,rfl⟩) (λJ h=>xn h) hy
  |_=>exact xn hy
|_=>exact .inl rfl
end
end
set_option backward.match.sparseCases false
section
open PySem.SeqAt
abbrev UL(Y:Em)(v:Flow)(fl:Fl):Prop:=match fl with
|.next=>v=.next
|.cont=>v=.cont
|.ret p=>∃u,v=.ret u/\VR Y u p
abbrev s6(w:World)(n:Nat)(X:Em)(sc:Scope)(m:Sm)(env:Env)(s:Shared)(A:Around)(P:Fl->Sl->AH->Prop)(Q:Flow->Shared->Prop):Prop:=∀{fl v s' Y lD jt},Ext X s (own sc env) Y s'->At w n Y jt sc m env lD s' A->UL Y v fl->P fl lD jt->Q v s'
abbrev Cb:=Scope->Sm->List Stmt->Option jF
def yZ(w:World)(n:Nat)(c:Cb):Prop:=∀{sc m b x},c sc m b=some x->∀{wf env sl A X η s P Q E},At w n X η sc m env sl s A->WS n x wf sl η P->s6 w n X sc m env s A P Q->wpAny (model pw w) A (execs b env) Q E s
section
variable{w:World}{wf:Nat}{f t:Cf}{c:Cb}{sc:Scope}{m:Sm}{env:Env}{sl:Sl}{X Y:Em}{jt:AH}{s s':Shared}{PX:PV->AH->Prop}{P:Fl->Sl->AH->Prop}{QV:Value->Shared->Prop}{Q:Flow->Shared->Prop}{E:Value->Shared->Prop}{x:St}{y:Internal.X}{e:Expr}{es:List Expr}{pos:Pos}{v:Value}{p:PV}
@[elab_as_elim] theorem UM{M:Flow->Prop}{v:Flow}{fl:Fl}{Pn:Prop}{Pr:PV->Prop}(r:UL Y v fl)(hp:match (motive:=Fl->Prop) fl with|.ret v=>Pr v|_=>Pn)(kc:M .next=M .cont)(k:Pn->M .next)(rt:∀{u p},VR Y u p->Pr p->M (.ret u)):M v:=by
 cases fl with
|next=>exact r▸k hp
|cont=>exact r▸kc▸k hp
|ret p=>exact ay r λu z=>z.1▸rt z.2 hp
theorem FI{M:Expr->Prop}(hc:yE e=true)(l:∀elt gs jG q,M (.ListComp elt gs jG q))(d:∀a b gs jG q,M (.DictComp a b gs jG q))(ss:∀a gs jG q,M (.SetComp a gs jG q)):M e:=by
 induction e using PySem.Expr.casesOn with
|ListComp elt gs jG q=>exact l elt gs jG q
|DictComp a b gs jG q=>exact d a b gs jG q
|SetComp a gs jG q=>exact ss a gs jG q
|_=>exact xf hc
theorem KG(h:yE e=false):xM f t sc m e=f sc m e/\∀{tg line},swapsWith e (some tg) line env=pure false:=by
 induction e using PySem.Expr.casesOn<;>first|exact ⟨rfl,rfl⟩|exact nomatch h
theorem KH(H:ly w n f)(T:oN w n t)(h:xM f t sc m e=some y)(C:At w n X η sc m env sl s A)(hw:W n y sl η PX)(k:Kx w n X sc m env sl s A PX QV):wpAny (model pw w) A (eval e env) QV E s:=
 xd (yE e) (λc=>FI (M:=λe=>xM f t sc m e=some y->wpAny (model pw w) A (eval e env) QV E s) c (λJ J J J h=>Kv H T C hw (FH C k) h) (λJ J J J J h=>arm_eval_DictComp ..▸Kw H T C hw (FH C k) h) (λJ J J J h=>xn h) h) λc=>H.go ((KG (env:=env) c).1.symm.trans h) C hw k
def SwOk(f:Cf)(sc:Scope)(m:Sm)(env:Env)(e tg:Expr)(tt:Tt)(line:Nat):Prop:=swapsWith e (some tg) line env=pure false\/∃y p i,tg=.Name y p/\tt=.loc i/\t7 sc y=true/\jv m y=some i/\swapsWith e (some (.Name y p)) line env=pure true/\yE e=true
theorem ahF{tt:Tt}{line:Nat}(ht:yT f sc m tg=some tt):SwOk f sc m env e tg tt line:=
 have key:∀(b:Bool),(pure b:Sem Bool)=pure false\/(pure b:Sem Bool)=pure true:=λb=>b.casesOn (.inl rfl) (.inr rfl)
 xd (yE e) (λc=>FI (M:=λe=>SwOk f sc m env e tg tt line) c
  (λJ J jG q=>Al (M:=λtg tt=>SwOk f sc m env _ tg tt line) ht (λ{y p i} hy hi=>(key _).imp id λe=>⟨y,p,i,rfl,rfl,hy,hi,e,rfl⟩) (λJ=>.inl rfl) λJ J J=>.inl rfl)
  (λJ J J jG q=>Al (M:=λtg tt=>SwOk f sc m env _ tg tt line) ht (λ{y p i} hy hi=>(key _).imp id λe=>⟨y,p,i,rfl,rfl,hy,hi,e,rfl⟩) (λJ=>.inl rfl) λJ J J=>.inl rfl)
  (λJ J jG q=>Al (M:=λtg tt=>SwOk f sc m env _ tg tt line) ht (λ{y p i} hy hi=>(key _).imp id λe=>⟨y,p,i,rfl,rfl,hy,hi,e,rfl⟩) (λJ=>.inl rfl) λJ J J=>.inl rfl)) λc=>.inl (KG (f:=f) (t:=f) (sc:=sc) (m:=m) c).2
theorem UN{y:Str}{i:Nat}{PP:Sl->AH->Prop}(C:At w n X η sc m env sl s A)(hy:t7 sc y=true)(hi:jv m y=some i)(q:∀{s' Y lD jt},Ext X s (own sc env) Y s'->At w n Y jt sc m env lD s' A->PP lD jt->QV .none s'):Kc w n X sc m env sl s A (λv η=>PP (put sl i (some v)) η) E (some λv=>assign (.Name y pos) env v) QV:=
 λ{D K s' Z p jt} hK e C' r t hm hp=>wpAny_assign_Name (C'.bind hy hi r λ{s2} e2 C2=>hm.elim λms hm=>
  have nC:¬ yL env K:=λq=>(C.F.alive q).1.elim λo ho=>xm (ho.symm.trans hK)
  ⟨ms,JG hm λo ho=>e2.keep K o ho t λq=>nC (EW q),λh' hs=>q ((e.up.trans e2).but (t:=s2.toks) hK hs.extBut) (C2.nx t nC hs.extBut) hp⟩)
theorem ahG{y:Str}{i:Nat}{z:Internal.X}{q:Pos}{PP:Sl->AH->Prop}(H:ly w n f)(T:oN w n t)(hs:swapsWith e (some (.Name y q)) pos.line env=pure true)(hc:yE e=true)(hv:xM f t sc m e=some z)(hy:t7 sc y=true)(hi:jv m y=some i)(C:At w n X η sc m env sl s A)(hw:W n z sl η λv η=>PP (put sl i (some v)) η)(k:∀{s' Y lD jt},Ext X s (own sc env) Y s'->At w n Y jt sc m env lD s' A->PP lD jt->Q .next s'):
  wpAny (model pw w) A (exec (.Assign [.Name y q] e pos) env) Q E s:=by
 rw [exec_Assign_Name_used _ _ _ _ hs]
 refine wpAny_bind (wpAny_standAt (wpAny_bind ?_))
 refine FI (M:=λe=>xM f t sc m e=some z->wpAny (model pw w) A (evalThenUse e env (assign (.Name y q) env)) (λJ s₁=>wpAny (model pw w) A (pure Flow.next) Q E s₁) E s) hc ?_ ?_ (λJ J J J h=>xn h) hv
 ·exact λJ J J J hv=>wpAny_bind (wpAny_mono (Kv H T C hw (UN (QV:=λJ s'=>Q .next s') C hy hi k) hv) (λJ J h=>wpAny_pure (wpAny_pure h)) λJ J x=>x)
 ·exact λJ J J J J hv=>wpAny_bind (wpAny_mono (Kw H T C hw (UN (QV:=λJ s'=>Q .next s') C hy hi k) hv) (λJ J h=>wpAny_pure (wpAny_pure h)) λJ J x=>x)
theorem ahH{tt:Tt}(G:Good w tab)(H:ly w n f)(T:oN w n t)(hv:xM f t sc m e=some y)(ht:yT f sc m tg=some tt)(C:At w n X η sc m env sl s A)(hw:W n y sl η λv η=>Wt n tt v sl η (P .next))(k:s6 w n X sc m env s A P Q):wpAny (model pw w) A (exec (.Assign [tg] e pos) env) Q E s:=by
 refine (ahF ht).elim (λhs=>wpAny_Assign_stores (KH H T hv C hw λe1 C1 r1 hw=>?_) hs (Al (M:=λtg J=>swappedStores [tg] e env=pure none) ht (λJ J=>rfl) (λJ=>rfl) λJ J J=>rfl)) λz=>z.elim λy z=>z.elim λp z=>z.elim λi z=>?_
 ·rw [KD (es:=[]) (env:=env) ht]
  exact UH G H ht C1 r1 hw λe2 C2 hp=>k (e1.up.trans e2) C2 rfl hp
 ·exact z.1▸ahG (PP:=P .next) H T z.2.2.2.2.1 z.2.2.2.2.2 hv z.2.2.1 z.2.2.2.1 C (show W n _ sl η λv η=>Wt n (.loc i) v sl η (P .next) from z.2.1▸hw) λe C hp=>k e C rfl hp
theorem ahI{qs:List (Str×Pos)}:∀{qb:List Tt},Ae f sc m (qs.map yX)=some qb->∃is,xH sc m (qs.map yX)=some is/\qs.length=is.length/\∀{l sl η} {P:Sl->AH->Prop},ux n qb l sl η P->∃lD,sY is l sl=some lD/\P lD η:=by
 induction qs with
|nil=>exact λh=>⟨[],rfl,rfl,λ{l _ _ _} hw=>by
   obtain rfl:=ai h
   cases l with
  |nil=>exact ⟨_,rfl,hw⟩
  |cons _ _=>exact hw.elim⟩
|cons q qs ih=>
  refine λh=>jz h λt h1 h=>xc h1 λc h1=>jH h1 λi h1 e1=>jH h λqb h2 e2=>(ih h2).elim λis z=>⟨i::is,?_,congrArg (·+1) z.2.1,λ{l _ _ _} hw=>?_⟩
  ·show (some q.1).bind _=_
   show cond (t7 sc q.1) ((jv m q.1).bind λi=>(xH sc m (qs.map yX)).map (i::·)) none=_
   rw [c,h1,z.1]
   rfl
  ·subst e2 e1
   cases l with
  |nil=>exact hw.elim
  |cons v l=>exact z.2.2 hw
theorem exec_Assign(targets value pos):exec (.Assign targets value pos) env=(do
  standAt pos
  if <-swapsWithSole targets value pos.line env then do
   evalThenUse value env λv=>assignAll v ((assignEach targets env).map (·.2))
   pure .next
  else do
   let v <-eval value env
   assignStores env v (<-swappedStores targets value env) ((assignEach targets env).map (·.2))):=rfl
theorem ahJ{cx:Nat}{tp:Pos}{qb:List Tt}(G:Good w tab)(H:ly w n f)(T:oN w n t)(hs:Jp e=true)(hv:xM f t sc m e=some y)(ht:Ae f sc m ts=some qb)(C:At w n X η sc m env sl s A)(hw:W n y sl η λv η=>∃l,v=.tup l/\l.length=qb.length/\ux n qb l sl η (P .next))(k:s6 w n X sc m env s A P Q):wpAny (model pw w) A (exec (.Assign [.Tuple ts cx tp] e pos) env) Q E s:=by
 have hn:swapsWithSole [.Tuple ts cx tp] e pos.line env=pure false:=xd (yE e) (λc=>FI (M:=λe=>swapsWithSole [.Tuple ts cx tp] e pos.line env=pure false) c (λJ J J J=>rfl) (λJ J J J J=>rfl) λJ J J J=>rfl) λc=>(KG (env:=env) (f:=f) (t:=f) (sc:=sc) (m:=m) c).2 (tg:=.Tuple ts cx tp) (line:=pos.line)
 refine (swapped (pos:=tp) (c:=cx) (ts:=ts) (env:=env) hs).elim (λhq=>wpAny_Assign_stores (KH H T hv C hw λ{v s1 Y p FG} e1 C1 r1 hw=>?_) hn hq) λz=>z.elim λqs z=>?_
 ·refine hw.elim λl z=>vU (v:=v) (z.1▸r1) λa vs m' e rs=>?_
  have N:=ahA (env:=env) ht
  refine wpAny_assign_Tuple (x1:=cx) C1.R.h (v8 (C1.B.fz e)) (N.1.trans (z.2.1.symm.trans rs.length.symm)) N.2 λh' eb=>?_
  have E1:Ext Y s1 (own sc env) Y { s1 with heap:=h' }:=(Ext.refl Y s1 _).but (t:=s1.toks) (bJ (ak _)) eb
  exact stN (s:={ s1 with heap:=h' }) G H ht z.2.2 ⟨C1.B.extBut (C1.B.off (ak _)) eb,C1.F.at (.refl Y) (λ{a o} _ ho nt=>⟨eb a o (bI (cH ho)) ho,nt⟩) id,C1.R,C1.o⟩ rs λe2 C2 hp=>k ((e1.up.trans E1).trans e2) C2 rfl hp
 ·have e1:=z.2.1
  subst e1
  rw [exec_Assign]
  refine wpAny_bind (wpAny_standAt ?_)
  rw [hn]
  refine wpAny_bind (wpAny_pure ?_)
  rw [if_neg (dc rfl),z.1]
  refine wpAny_bind (KH H T hv C hw λ{v s1 Y p FG} e1 C1 r1 hw=>wpAny_bind (wpAny_pure ?_))
  refine hw.elim λl y=>vU (v:=v) (y.1▸r1) λa vs m' e rs=>(ahI (n:=n) ht).elim λis z2=>(z2.2.2 y.2.2).elim λlD z3=>?_
  have hl:(qs.map (·.1)).length=vs.toArray.size:=by
   rw [bM,rs.length,aC,<-Ka z3.1,z2.2.1]
  refine wpAny_bind (wpAny_rule ?_)
  rw [hl]
  refine wpAny_bind (wpAny_unpackItems_tuple C1.R.h (v8 (C1.B.fz e)) λh' eb=>?_)
  have E1:Ext Y s1 (own sc env) Y { s1 with heap:=h' }:=(Ext.refl Y s1 _).but (t:=s1.toks) (bJ (ak _)) eb
  have:=ahE (s:={ s1 with heap:=h' }) (A:=A) (E:=E) (fs:=[]) (us:=[]) (Q:=λJ s=>wpAny (model pw w) A (pure .next) Q E s) z2.1 z.2.2 z3.1 ⟨C1.B.extBut (C1.B.off (ak _)) eb,C1.F.at (.refl Y) (λ{a o} _ ho nt=>⟨eb a o (bI (cH ho)) ho,nt⟩) id,C1.R,C1.o⟩ rs λe2 C2=>wpAny_pure (wpAny_pure (k ((e1.up.trans E1).trans e2) C2 rfl z3.2))
  rw [bU,bU] at this
  exact wpAny_bind this
end
end
section
open PySem.SeqAt
section
variable{w:World}{wf:Nat}{f t:Cf}{c:Cb}{sc:Scope}{m:Sm}{env:Env}{sl:Sl}{X Y:Em}{jt:AH}{s s':Shared}{PX:PV->AH->Prop}{P:Fl->Sl->AH->Prop}{QV:Value->Shared->Prop}{Q:Flow->Shared->Prop}{E:Value->Shared->Prop}{x:St}{y:Internal.X}{e:Expr}{es:List Expr}{pos:Pos}{v:Value}{p:PV}{body:List Stmt}
theorem ahK(G:Good w tab)(H:ly w n f)(T:oN w n t)(h:TN f t sc m tg e=some x)(C:At w n X η sc m env sl s A)(hw:W1 n x wf sl η P)(k:s6 w n X sc m env s A P Q):wpAny (model pw w) A (exec (.Assign [tg] e pos) env) Q E s:=
 jz h λy hv h=>xo (B8 tg) (λc=>by
  rw [c] at h
  exact jH h λtt ht e=>ahH G H T hv ht C (show W1 n (.asg tt y) wf sl η P from e▸hw) k) λts c=>by
  rw [c] at h
  exact xc h λc2 h=>jH h λqb ht e=>(Um c).elim λcx z=>z.elim λtp z=>z▸ahJ G H T c2 hv ht C (show W1 n (.vf qb y) wf sl η P from e▸hw) k
theorem ahL(G:Good w tab)(H:ly w n f)(h:TR f sc m tg e=some x)(C:At w n X η sc m env sl s A)(hw:W1 n x wf sl η P)(k:s6 w n X sc m env s A P Q):wpAny (model pw w) A (exec (.AugAssign tg .Add e pos) env) Q E s:=by
 induction tg using PySem.Expr.casesOn with
|Attribute o a q=>
  refine jz h λox h1 h=>jH h λy h2 e=>wpAny_AugAssign_AttributeAny (H.go h1 C (show W1 n (.aug ox a y) wf sl η P from e▸hw) λe1 C1 r1 hw=>hw.elim λi z=>RK G.f z.1 r1 C1.B λ{u} t r2=>H.go h2 C1.tok z.2 λ{u2 s3 V p2 uA} e3 C3 r3 hw=>hw.elim λj z=>?_)
  refine vI r2 λt1=>vI (v:=u2) (z.1▸r3) λt2=>PySem.P.iadd_int (z.2.elim λUO z=>RL (s:={ s3 with toks:=s3.toks+1 }) G.f z.1 (r1.mono e3.le) (.int _ _) C3.B λ{h' t} E4 B4=>?_)
  have e4:=((e1.trans (.tok ..)).trans e3).trans ((Ext.tok V s3 no _).trans E4)
  exact k e4.up (C.next e4 B4) rfl z.2
|_=>exact xn h
theorem ahM{S:Src}{bd:jF}{R:Result->Shared->Prop}{se:Em}{qx:Shared}{I:Addr}{k:Nat}(HB:yZ w n c)(ht:wB sc m tg=some nW)(hb:c sc m body=some bd)(hI:qx.heap.get? I=none)(hn:¬ yL env I)(E0:Ext se qx (own sc env) X s)(C:At w n X η sc m env sl s A)(x:pe X s.heap I k S)(hT:¬ X.lq I)
  (hw:o9 (λe η Q=>WS n bd wf e η Q) nW S fuel k sl η P) (q:s6 w n se sc m env qx A P λf s'=>R (.ok f) s'):codeAny (model pw w) A (.forLoop tg (.ref I) body [] env) R s:=by
 refine codeAny_forLoop_any (λoz s'=>∀G:Prop,(∀Y sl η k,o9 (λe η Q=>WS n bd wf e η Q) nW S oz k sl η P->Ext se qx (own sc env) Y s'->At w n Y η sc m env sl s' A->pe Y s'.heap I k S->¬ Y.lq I->G)->G) ?_ fuel λJ q=>q X sl η k hw E0 C x hT
 clear hw E0 C x hT
 intro oz s₁ g
 refine g _ λY sl η k hw E C x hT=>?_
 clear g
 cases oz with
|zero=>exact hw.elim
|succ oz=>
  refine ay hw λo z=>Up hI (λJ J J J q=>q) hn ht E C x hT z.1 (λe {s'} E1 C1=>?_) λ{p} e {v s'} hs=>?_
  ·subst e
   exact wpAny_execs_nil (q E1 C1 rfl z.2)
  ·subst e
   exact ay z.2 λlD z=>hs z.1 λE3 C3 x3=>HB hb C3 z.2 λ{_ _ _ _ CG Aj} e4 C4 r4 hp=>UM (Pn:=o9 (λe η Q=>WS n bd wf e η Q) nW S oz (k+1) CG Aj P) (Pr:=λv=>P (.ret v) CG Aj) r4 hp rfl (λhp=>⟨oz,bG oz,λJ q=>x3.elim λo y=>q _ _ _ _ hp (E3.trans e4) C4 (x3.mono e4.le λo ho=>e4.keep I o ho hT λq=>hn (EW q)) (e4.off y.1 hT)⟩) λr hp=>q (fl:=.ret _) (E3.trans e4) C4 ⟨_,rfl,r⟩ hp
theorem UQ{S:Src}{bd:jF}{ob:Obj}{R:Result->Shared->Prop}{s₁:Shared}(HB:yZ w n c)(ht:wB sc m tg=some nW)(hb:c sc m body=some bd)(C:At w n X η sc m env sl s A)(e1:Ext X s no Y s₁)(B1:Base w Y jt s₁.heap)(x:pe Y (s₁.heap.push ob) s₁.heap.objs.size 0 S)
  (hw:o9 (λe η Q=>WS n bd wf e η Q) nW S (S.len jt+1) 0 sl jt P) (k:s6 w n X sc m env s A P λf s'=>R (.ok f) s'):codeAny (model pw w) A (.forLoop tg (.ref s₁.heap.objs.size) body [] env) R { s₁ with heap:=s₁.heap.push ob }:=
 have nI:=bJ (h:=s₁.heap) (ak _)
 have yW:=e1.none B1 nI
 have e2:=e1.trans (.push (t:=s₁.toks) ..)
 ahM (s:={ s₁ with heap:=s₁.heap.push ob }) HB ht hb yW (λq=>(C.F.alive q).1.elim λo ho=>xm (ho.symm.trans yW)) e2.up (C.next e2 (B1.push ob)) x (B1.Ey nI) hw k
theorem ahN{q:Str×Expr}(h:Jq e=some q):∃p p',e=.Call (.Name q.1 p) [q.2] [] p':=by
 induction e using PySem.Expr.casesOn with
|Call g as ks p'=>exact jz h λf h1 h=>jz h λa h2 h=>xc h λc h=>xb c λc J=>(FE h1).elim λp e=>ai h▸e▸xD h2▸dS.mp c▸⟨p,p',rfl⟩
|_=>exact xn h
theorem CH{u:Value}{k:String}(h:zZ u k=true):u=.type k:=by
 cases u<;>first|exact xf h|exact congrArg Value.type (beq_iff_eq.mp h)
theorem KJ{u:Value}(h:gV p=some u):p=.st u:=by
 cases p<;>first|exact xn h|exact congrArg PV.st (ai h)
theorem ahO{g:Str}(h:TP tab sc g=true):Ab tab sc m g=some (.k (.st (.type "reversed"))):=xb h λa b=>xo ((jv tab.glob g).bind gV) (λe=>by
 rw [e] at b
 exact xf b) λu e=>by
 rw [e] at b
 unfold Ab
 rw [of_decide_eq_true a]
 exact jz e λv hv hg=>(congrArg (Option.map Internal.X.k) hv).trans (congrArg (λv=>some (Internal.X.k v)) ((KJ hg).trans (congrArg PV.st (CH b))))
theorem ahP{it:Expr}(G:Good w tab)(H:ly w n f)(HB:yZ w n c)(h:TQ tab f c sc m tg it body=some x)(C:At w n X η sc m env sl s A)(hw:W1 n x wf sl η P)(k:s6 w n X sc m env s A P Q):wpAny (model pw w) A (exec (.For tg it body [] pos) env) Q E s:=
 jz h λnW ht h=>jz h λbd hb h=>xo (Jq it) (λr=>by
  rw [r] at h
  refine xc h λc h=>jH h λy h1 e=>?_
  subst e
  exact wpAny_For (H.go h1 C hw λe1 C1 r1 hw=>hw.elim λS z=>Uk C1.B r1 z.1 λx=>UQ HB ht hb C e1 C1.B x z.2 k) (Uw c)) λq r=>by
  rw [r] at h
  refine xc h λc h=>jH h λy h1 e=>(ahN r).elim λp z=>z.elim λp' z=>?_
  subst z e
  refine wpAny_For (wpAny_Call_ofName (J6 G (ahO (m:=m) c) C (P:=λv jt=>v=.st (.type "reversed")/\W1 n (.for true nW y bd) wf sl jt P) ⟨rfl,hw⟩ λ{v s1 Y p FG} e1 C1 r1 hw=>vT (v:=v) (hw.1▸r1) λJ=>?_))
  refine Fy (as:=.cons y .nil) (R:=λps η=>∃S,((one ps).bind (rU true · η))=some S/\o9 (λe η Q=>WS n bd wf e η Q) nW S (S.len η+1) 0 sl η P) (.inr (.inr ⟨_,rfl⟩)) H (by show (f sc m q.2).bind _=_;rw [h1];rfl) C1 hw.2 λ{us s2 Z ps uA} e2 C2 rs hw=>hw.elim λS z=>?_
  refine jz z.1 λo ho h=>Jw (vs:=us) (xD ho▸rs) λu ru=>jz h λr hr h=>jz h λl hl h=>xc h λcl h=>uV (v:=u) C2.B (uW hr▸ru) (wg hl) λd us m' ea e rs=>call_reversed_list (oW e) ?_
  have hit:pe Z (s2.heap.push (revObj d ((us.toArray.size:Int) - 1))) s2.heap.objs.size 0 (.rev r.1 r.2 l.length):=⟨_,bK _ rfl,d,ea,bx _,rfl,by rw [<-rs.length];simp [revObj]⟩
  have e:=ai h
  exact Ul (s:={ s2 with heap:=s2.heap.push (revObj d ((us.toArray.size:Int) - 1)) }) hit (UQ HB ht hb C (e1.trans e2) C2.B hit (show o9 _ nW _ _ 0 sl uA P from e▸z.2) k)
theorem ahQ{te:Expr}(H:ly w n f)(T:oN w n t)(HB:yZ w n c)(h:((t sc m te).bind λte=>(c sc m body).map (.ri te))=some x)(C:At w n X η sc m env sl s A)(hw:W1 n x wf sl η P)(k:s6 w n X sc m env s A P Q):wpAny (model pw w) A (exec (.While te body [] pos) env) Q E s:=
 jz h λAq h1 h=>jH h λbd hb e=>wpAny_While (codeAny_whileLoop (λoz s'=>∀G:Prop,(∀Y sl η,qL (λe η Q=>W n Aq e η Q) (λe η Q=>WS n bd 0 e η Q) oz sl η P->Ext X s (own sc env) Y s'->At w n Y η sc m env sl s' A->G)->G) (λoz s₁ g=>g _ λY sl η hw E C=>by
  clear g
  cases oz with
 |zero=>exact hw.elim
 |succ oz=>
   refine T (R:=λc η=>(c=true->WS n bd 0 sl η λf e η=>match f with
  |.ret v=>P (.ret v) e η
  |_=>qL (λe η Q=>W n Aq e η Q) (λe η Q=>WS n bd 0 e η Q) oz e η P)/\(c=false->P .next sl η)) h1 C hw id λ{b _ _ _} e1 C1 hw=>?_
   cases b with
  |true=>exact HB hb C1 (hw.1 rfl) λ{_ _ _ _ CG Aj} e4 C4 r4 hp=>UM (Pn:=qL (λe η Q=>W n Aq e η Q) (λe η Q=>WS n bd 0 e η Q) oz CG Aj P) (Pr:=λv=>P (.ret v) CG Aj) r4 hp rfl (λhp=>⟨oz,bG oz,λJ q=>q _ _ _ hp ((E.trans e1.up).trans e4) C4⟩) λr hp=>k (fl:=.ret _) ((E.trans e1.up).trans e4) C4 ⟨_,rfl,r⟩ hp
  |false=>exact wpAny_execs_nil (k (E.trans e1.up) C1 rfl (hw.2 rfl))) wf λJ q=>q X sl η (show W1 n (.ri Aq bd) wf sl η P from e▸hw) (.refl ..) C)
theorem ahR{te:Expr}{b o:List Stmt}(T:oN w n t)(HB:yZ w n c)(h:((t sc m te).bind λte=>(c sc m b).bind λa=>(c sc m o).map (.ite te a))=some x)(C:At w n X η sc m env sl s A)(hw:W1 n x wf sl η P)(k:s6 w n X sc m env s A P Q):wpAny (model pw w) A (exec (.If te b o pos) env) Q E s:=
 jz h λAq h1 h=>jz h λbb hb h=>jH h λbo ho e=>wpAny_If (T (R:=λc η=>(c=true->WS n bb wf sl η P)/\(c=false->WS n bo wf sl η P)) h1 C (show W1 n (.ite Aq bb bo) wf sl η P from e▸hw) id λ{b _ _ _} e1 C1 hw=>match b,hw with
 |true,hw=>HB hb C1 (hw.1 rfl) λe2=>k (e1.up.trans e2)
 |false,hw=>HB ho C1 (hw.2 rfl) λe2=>k (e1.up.trans e2))
theorem ahS(H:ly w n f)(h:cond (isCall e) ((f sc m e).map .expr) none=some x)(C:At w n X η sc m env sl s A)(hw:W1 n x wf sl η P)(k:s6 w n X sc m env s A P Q):wpAny (model pw w) A (exec (.Expr e pos) env) Q E s:=by
 refine xc h λc h=>jH h λy h1 e'=>wpAny_Expr_any (H.go h1 C (show W1 n (.expr y) wf sl η P from e'▸hw) λe1 C1 r1 hw=>k e1.up C1 rfl hw.2) (by unfold interactive;rw [C.F.k];rfl) ?_
 clear h1 h
 induction e using PySem.Expr.casesOn<;>first|rfl|exact xf c
theorem ahT{st:Stmt}(G:Good w tab)(H:ly w n f)(T:oN w n t)(HB:yZ w n c)(h:TS tab f t c sc m st=some x)(C:At w n X η sc m env sl s A)(hw:W1 n x wf sl η P)(k:s6 w n X sc m env s A P Q):wpAny (model pw w) A (exec st env) Q E s:=by
 induction st using PySem.Stmt.casesOn with
|Expr e p=>exact ahS H h C hw k
|Assign ts v p=>exact jz h λtg ho h=>xD ho▸ahK G H T h C hw k
|AugAssign tg op v p=>exact xc h λc h=>JB c▸ahL G H h C hw k
|If te b o p=>exact ahR T HB h C hw k
|While te b o p=>exact xc h λc h=>dS.mp c▸ahQ H T HB h C hw k
|For tg it b o p=>exact xc h λc h=>dS.mp c▸ahP G H HB h C hw k
|Return e p=>
  cases e with
 |none=>exact wpAny_Return_none (k (fl:=.ret .none) (.refl ..) C ⟨_,rfl,.none⟩ (show W1 n .Ft wf sl η P from ai h▸hw))
 |some e=>exact jH h λy h1 e'=>wpAny_Return_some (H.go h1 C (show W1 n (.ret y) wf sl η P from e'▸hw) λe1 C1 r1 hw=>k (fl:=.ret _) e1.up C1 ⟨_,rfl,r1⟩ hw)
|Continue p=>exact wpAny_Continue (k (fl:=.cont) (.refl ..) C rfl (show W1 n .cont wf sl η P from ai h▸hw))
|_=>exact xn h
theorem ahU(G:Good w tab)(k:Nat):yZ w n (Af tab k):=by
 induction k with
|zero=>exact λh=>xn h
|succ k ih=>
  intro sc m b x h wf env sl A X η s P Q E C hw q
  cases b with
 |nil=>exact wpAny_execs_nil (q (fl:=.next) (.refl ..) C rfl (show WS n .nil wf sl η P from ai h▸hw))
 |cons st r=>
   refine jz h λy h1 h=>jH h λz h2 e=>wpAny_execs_cons (ahT G (Kz G k).1.1 (Kz G k).2.2 ih h1 C (show WS n (.cons y z) wf sl η P from e▸hw) λ{fl v s1 Y sl1 FG} e1 C1 r1 hp=>?_)
   cases fl with
  |next=>exact r1▸ih h2 C1 hp λe2=>q (e1.trans e2)
  |cont=>exact r1▸q (fl:=.cont) e1 C1 rfl hp
  |ret p=>exact ay r1 λu z=>z.1▸q (fl:=.ret p) e1 C1 ⟨u,rfl,z.2⟩ hp
end
end
set_option backward.match.sparseCases true
section
open PySem.SeqAt
section
variable{X:Em}{xs:List Str}{ds vs ws:List PV}{dv:List Value}{ρ:Loc}
theorem KN{α:Type}{ds vs:List α}{ρ:List (Str×α)}{G:Prop}(h:bindG xs ds vs=some ρ)(k:vs.length<=xs.length->xs.length - ds.length<=vs.length->xs.zip (vs++ds.drop (vs.length - (xs.length - ds.length)))=ρ->G):G:=
 xc h λc h=>xb c λc1 c2=>k (b5 c1) (b5 c2) (ai h)
theorem jI.drop{l:List PV}:∀{vs:List Value} (k:Nat),jI X vs l->jI X (vs.drop k) (l.drop k):=by
 induction l with
|nil=>exact λk rs=>o7 rs (by rw [List.drop_nil,List.drop_nil];exact .nil)
|cons p l ih=>exact λk rs=>match k with
 |0=>rs
 |k+1=>m8 rs λv vs r rs=>ih k rs
theorem ahV{l:List PV}{xs:List Str}:∀{vs:List Value},jI X vs l->KR X (xs.zip vs) (xs.zip l):=by
 induction l generalizing xs with
|nil=>exact λrs=>o7 rs (by rw [iQ,iQ];exact .nil)
|cons p l ih=>exact λrs=>m8 rs λv vs r rs=>match xs with
 |[]=>.nil
 |x::xs=>.cons r (ih rs)
theorem ahW(h:bindG xs ds vs=some ρ)(hd:jI X dv ds)(hv:jI X us vs):∃b,bindG xs dv us=some b/\KR X b ρ:=
 xc h λc h=>⟨xs.zip (us++dv.drop (us.length - (xs.length - dv.length))),by
  unfold bindG
  rw [hd.length,hv.length,c]
  rfl,ai h▸hd.length▸hv.length▸ahV (hv.append (hd.drop _))⟩
theorem UR{α:Type}{ds vs:List α}{ρ:List (Str×α)}(h:bindG xs ds vs=some ρ):ρ.map az=xs:=KN h λa b e=>e▸List.map_fst_zip (by
  rw [aE,List.length_drop]
  exact iR.mp (ie (iS a b▸fT.mpr (iR.mp (ak _)))))
noncomputable def wC(σ:List (Str×Value))(p:Str×Value):List (Str×Value):=if (σ.lookup p.1).isNone then σ++[p] else σ
theorem ahX{τ:List (Str×Value)}{x:Str}{σ:List (Str×Value)}:(σ++τ).lookup x=(σ.lookup x).or (τ.lookup x):=by
 induction σ with
|nil=>rfl
|cons p σ ih=>
  rw [bW,bB,bB,ih]
  cases x == p.1<;>rfl
theorem ahY{x:Str}{ps:List (Str×Value)}:∀{σ:List (Str×Value)},(ps.foldl wC σ).lookup x=(σ.lookup x).or (ps.lookup x):=by
 induction ps with
|nil=>exact λ{σ}=>(Option.or_none ..).symm
|cons p ps ih=>
  refine λ{σ}=>ih.trans ?_
  have:(wC σ p).lookup x=(σ.lookup x).or ([p].lookup x):=by
   unfold wC
   by_cases c:(σ.lookup p.1).isNone=true
   ·rw [if_pos c];exact ahX
   ·rw [if_neg c,bB]
    by_cases q:x=p.1
    ·subst q
     cases h:σ.lookup p.1 with
    |none=>exact absurd (h▸rfl) c
    |some _=>rfl
    ·rw [beq_eq_false_iff_ne.mpr q]
     exact (Option.or_none ..).symm
  rw [this,bB,bB,Option.or_assoc]
  cases x == p.1<;>rfl
theorem KQ{x:Str}{xs:List Str}:∀{vs:List Value} {i:Nat},xs.Nodup->xs[i]?=some x->(xs.zip vs).lookup x=vs[i]?:=by
 induction xs with
|nil=>exact λJ h=>xn h
|cons y xs ih=>
  intro vs i nd h
  have nd:=bw.mp nd
  cases vs with
 |nil=>exact List.getElem?_nil.symm
 |cons v vs=>
   rw [List.zip_cons_cons,bB]
   cases i with
  |zero=>rw [ai h,beq_self_eq_true];rfl
  |succ i=>
    rw [beq_eq_false_iff_ne.mpr λe:x=y=>nd.1 (e▸gw h)]
    exact ih nd.2 h
theorem ahZ{σ:List (Str×Value)}{ρ:List (Str×Value)}(h:∀{i:Nat} {x v},ρ[i]?=some (x,v)->σ.lookup x=some v):(ρ.map (·.1)).filterMap (λk=>(σ.lookup k).map (k,·))=ρ:=by
 induction ρ with
|nil=>rfl
|cons p ρ ih=>
  rw [bT,fy,h (i:=0) rfl,ih λ{i _ _} q=>h (i:=i+1) q]
  rfl
variable{M:Model}{s:Shared}{E:Value->Shared->Prop}
theorem ah0{Q:List (Str×Value)->Shared->Prop}{ps:List (Str×Value)}:∀{σ:List (Str×Value)},Q (ps.foldl wC σ) s->wpAny M A (forIn ps σ λx __s=>if (cN x.fst __s).isNone=true then pure (cB (__s++[(x.fst,x.snd)])) else pure (cB __s)) Q E s:=by
 induction ps with
|nil=>exact λh=>wpAny_pure h
|cons p ps ih=>
  intro σ h
  rw [fk]
  refine wpAny_bind (wpAny_mono (Q:=λr s'=>r=.yield (wC σ p)/\s'=s) ?_ (λr s' z=>z.1▸z.2▸ih h) λJ J x=>x)
  unfold wC
  split<;>exact wpAny_pure ⟨rfl,rfl⟩
theorem UT{α:Type}{c:Prop}[Decidable c]{a b:Sem α}{Q:α->Shared->Prop}(h:¬ c)(k:wpAny M A b Q E s):wpAny M A (if c then a else b) Q E s:=by
 rw [if_neg h];exact k
theorem ah1{b:List (Str×Value)}(nd:xs.Nodup)(hb:bindG xs dv us=some b):(xs++[]).filterMap (λk=>(cN k (d7 wC (xs.zip us) ((xs.drop (xs.length - dv.length)).zip dv))).map (k,·))=b:=by
 rw [bU]
 have key:=ahZ (σ:=d7 wC (xs.zip us) ((xs.drop (xs.length - dv.length)).zip dv)) (ρ:=b) λ{i x v} hi=>KN hb λJ g2 g3=>by
  have hz:=List.getElem?_zip_eq_some.mp (g3▸hi)
  have h2:=hz.2
  rw [ahY,KQ nd hz.1]
  by_cases c:i<us.length
  ·rw [fV c] at h2
   rw [h2]
   rfl
  ·have c:=dH c
   rw [fB c,iT,bX,iS c g2] at h2
   rw [cy c]
   exact (KQ (nd.sublist (List.drop_sublist _ _)) (iT.trans ((congrArg (xs[·]?) (Nat.add_sub_cancel' (ah g2 c))).trans hz.1))).trans h2
 exact UR hb▸key
theorem ah2(nd:xs.Nodup)(hd:xs.length - dv.length<=us.length):¬ (!(fC (λn=>(cN n (xs.zip us)).isNone) (List.take (xs.length - dv.length) xs)).isEmpty)=true:=by
 rw [show fC (λn=>(cN n (xs.zip us)).isNone) (List.take (xs.length - dv.length) xs)=[] from gy.mpr λx hx=>?_]
 ·exact nofun
 ·obtain ⟨i,hi,e⟩:=List.mem_take_iff_getElem.mp hx
  rw [KQ nd (e▸aR _),aR (aA (aA hi (fO ..)) hd)]
  exact nofun
def Bd(xs:List Str)(us dv:List Value)(Q:List (Str×Value)->Prop):Prop:=
 us.length<=xs.length/\(¬ (!(fC (λn=>(cN n (xs.zip us)).isNone) (List.take (xs.length - (dh (dv.length - xs.length) dv).length) xs)).isEmpty)=true)/\
  Q ((xs++[]).filterMap (λk=>(cN k (d7 wC (xs.zip us) ((xs.drop (xs.length - (dh (dv.length - xs.length) dv).length)).zip (dh (dv.length - xs.length) dv)))).map (k,·)))
noncomputable abbrev uB(ar:List Arg):List Str:=ar.map (·.arg)
theorem bind_eq{qn:Str}{ar:List Arg}{kd:List (Option Expr)}{dl:List Expr}{bo:FuncBody}{sc:Scope}{gl:Addr}{cl:List (Str×Addr)}{df kdf dc pm:Value}{an:Option Addr}{cd ct:Value}{bi:Addr}:∃e1 e2:Option (Array Value)->Sem (List (Str×Value)),
  PySem.bindArgs ⟨nm,qn,⟨[],ar,none,[],kd,none,dl⟩,bo,sc,gl,cl,df,kdf,dc,pm,an,cd,ct,bi⟩ ⟨us,[]⟩=(seqItems? df >>= λr=>if (decide (us.length>(uB ar).length) && true)=true then e1 r else
   if (!(fC (λn=>(cN n ((uB ar).zip us)).isNone) (List.take ((uB ar).length - (dh ((r.getD #[]).toList.length - (uB ar).length) (r.getD #[]).toList).length) (uB ar))).isEmpty)=true then e2 r else
   (forIn (((uB ar).drop ((uB ar).length - (dh ((r.getD #[]).toList.length - (uB ar).length) (r.getD #[]).toList).length)).zip (dh ((r.getD #[]).toList.length - (uB ar).length) (r.getD #[]).toList)) ((uB ar).zip us) λx __s=>if (cN x.fst __s).isNone=true then pure (cB (__s++[(x.fst,x.snd)])) else pure (cB __s)) >>= λσ=>pure ((uB ar++[]).filterMap (λk=>(cN k σ).map (k,·)))):=⟨_,_,rfl⟩
theorem ah3{qn:Str}{ar:List Arg}{kd:List (Option Expr)}{dl:List Expr}{bo:FuncBody}{sc:Scope}{gl:Addr}{cl:List (Str×Addr)}{df kdf dc pm:Value}{an:Option Addr}{cd ct:Value}{bi:Addr}{Q:List (Str×Value)->Shared->Prop}{D:Option (Array Value)->Prop}
  (hs:∀{Q:Option (Array Value)->Shared->Prop},(∀r,D r->Q r s)->wpAny M A (seqItems? df) Q E s) (h:∀r,D r->Bd (ar.map (·.arg)) us (r.getD #[]).toList (Q · s)) :
  wpAny M A (PySem.bindArgs ⟨nm,qn,⟨[],ar,none,[],kd,none,dl⟩,bo,sc,gl,cl,df,kdf,dc,pm,an,cd,ct,bi⟩ ⟨us,[]⟩) Q E s:=
 bind_eq.elim λe1 z=>z.elim λe2 z=>z▸wpAny_bind (hs λr hr=>(h r hr).elim λh1 h2=>h2.elim λh2 h3=>UT (λc=>Nat.not_lt_of_le h1 (of_decide_eq_true (xb c λh J=>h))) (UT h2 (wpAny_bind (ah0 (wpAny_pure h3)))))
theorem ah4{fd:FuncData}(O:J0 fd.params):fd=⟨fd.name,fd.qualname,⟨[],fd.params.args,none,[],fd.params.kw_defaults,none,fd.params.defaults⟩,fd.body,fd.scope,fd.globals,fd.closure,fd.defaults,fd.kwdefaults,fd.doc,fd.pyModule,fd.annotations,fd.code,fd.closureTuple,fd.builtins⟩:=by
 refine congrArg (λp=>{ fd with params:=p }) (?_:fd.params=_)
 revert O
 generalize fd.params=p
 exact λO=>(by obtain ⟨po,ar,va,ko,kd,kw,dl⟩:=p;obtain ⟨rfl,rfl,rfl,rfl,_⟩:=O;rfl)
theorem ah5{fd:FuncData}{b:List (Str×Value)}{Q:List (Str×Value)->Shared->Prop}(O:J0 fd.params)(hd:dv.length<=(fd.params.args.map (·.arg)).length)
  (hs:∀{Q:Option (Array Value)->Shared->Prop},(∀r,(r.getD #[]).toList=dv->Q r s)->wpAny M A (seqItems? fd.defaults) Q E s) (hb:bindG (fd.params.args.map (·.arg)) dv us=some b) (h:Q b s):wpAny M A (PySem.bindArgs fd ⟨us,[]⟩) Q E s:=by
 refine (congrArg (λx=>wpAny M A (PySem.bindArgs x ⟨us,[]⟩) Q E s) (ah4 O)).mpr (ah3 hs λr hr=>?_)
 have d0:dh (dv.length - (fd.params.args.map (·.arg)).length) dv=dv:=by rw [Nat.sub_eq_zero_of_le hd];rfl
 unfold Bd
 rw [hr,d0,ah1 O.nd hb]
 exact KN hb λg1 g2 J=>⟨g1,ah2 O.nd g2,h⟩
end
end
set_option backward.match.sparseCases false
section
open PySem.SeqAt
noncomputable def Ar:Nat->List Str->Sm
|_,[]=>[]
|i,x::r=>(x,i)::Ar (i+1) r
def ownNames(ps:List Str):List (Str×NameKind)->List Str
|[]=>[]
|p::r=>cond ((decide (p.2=.local) || decide (p.2=.cell)) && !o8 ps p.1) (p.1::ownNames ps r) (ownNames ps r)
def slotsOf(st:Stmt):Sm:=Ar 0 (rV st++ownNames (rV st) (uc st).names)
def codeOf(T:Tab)(a:Addr)(n:Nat):Option (Nat×jF):=(jL T.pV a).bind λfi=>cond (xG (slotsOf fi.st)) ((Af T n (uc fi.st) (slotsOf fi.st) (bodyOf fi.st)).map λss=>((slotsOf fi.st).length - (rV fi.st).length,ss)) none
def s7(T:Tab)(a:Addr)(vs:List PV):Option (List PV):=(jL T.pV a).bind λfi=>(Jr (rV fi.st) fi.dflt vs).map (·.map cP)
noncomputable def pI(as:List PV)(n:Nat):Sl:=as.map some++bq n none
def nK(Q:PV->AH->Prop)(f:Fl)(e:Sl)(η:AH):Prop:=match f with
|.ret v=>Q v η
|.next=>Q .none η
|.cont=>False
def mk(a:Addr)(η:AH):AH:=cond (MK.any (aj · a)) η.fresh η
section
variable{X:Em}{x:Str}{p:PV}
theorem ah6{l:List Str}:∀{k i:Nat},jv (Ar k l) x=some i->k<=i:=by
 induction l with
|nil=>exact λh=>xn h
|cons y l ih=>exact λ{k i} h=>mY (show cond (sq y x) (some k) (jv (Ar (k+1) l) x)=some i from h) (λJ h=>aq (ai h)) λJ h=>cw (ih h)
theorem UU:∀{n i:Nat},look (bq n none) i=none
|0,_=>rfl
|n+1,0=>rfl
|n+1,i+1=>UU (n:=n) (i:=i)
theorem ah7{rest:List Str}{ρ:Loc}:∀{k i:Nat},jv (Ar k (ρ.map az++rest)) x=some (k+i)->look (pI (ρ.map cP) n) i=some p->jv ρ x=some p:=by
 induction ρ with
|nil=>exact λJ hl=>xn (UU.symm.trans hl)
|cons q ρ ih=>exact λ{k i} h hl=>mY (show cond (sq q.1 x) (some k) (jv (Ar (k+1) (ρ.map az++rest)) x)=some (k+i) from h) (λc h=>by
   obtain rfl:i=0:=(Nat.add_eq_left.mp (ai h).symm)
   exact (congrArg (λb=>cond b (some q.2) (jv ρ x)) c).trans hl) λc h=>match i with
  |0=>absurd (ah6 h) (iO k)
  |i+1=>(congrArg (λb=>cond b (some q.2) (jv ρ x)) c).trans (ih (k:=k+1) (i:=i) (h.trans (congrArg some (cu k i).symm)) hl)
noncomputable def bF(c:Str->Bool):List (Str×Value)->(Str->Option Value)->Str->Option Value
|[],m=>m
|p::b,m=>bF c b (cond (c p.1) (λy=>if y=p.1 then some p.2 else m y) m)
theorem UW{c:Str->Bool}(hc:c x=true){b:List (Str×Value)}:∀{m:Str->Option Value},(b.map (·.1)).Nodup->bF c b m x=(b.lookup x).or (m x):=by
 induction b with
|nil=>exact λJ=>rfl
|cons p b ih=>
  intro m nd
  have nd:=bw.mp nd
  refine (ih nd.2).trans ?_
  rw [bB]
  by_cases e:x=p.1
  ·subst e
   rw [hc,beq_self_eq_true,show b.lookup p.1=none from xo _ id λv h=>absurd (aQ.mpr ⟨_,mem_of_lookup h,rfl⟩) nd.1]
   exact if_pos rfl
  ·rw [beq_eq_false_iff_ne.mpr e]
   cases c p.1
   ·rfl
   ·exact congrArg _ (if_neg e)
theorem ah8{k:Str->Option NameKind}{b:List (Str×Value)}:∀{m:Str->Option Value},bindL k b m=bF (λy=>decide (k y=some .local)) b m:=by
 induction b with
|nil=>exact rfl
|cons p b ih=>exact ih.trans (congrArg (bF _ b) (ue rfl _ _).symm)
theorem ah9{k:Str->Option NameKind}{b:List (Str×Value)}:∀{m:Str->Option Value},bindC k b m=bF (λy=>!decide (k y=some .local)) b m:=by
 induction b with
|nil=>exact rfl
|cons p b ih=>exact ih.trans (congrArg (bF _ b) (by
   show (if k p.1=some .local then _ else _)=cond (!decide (k p.1=some .local)) _ _
   by_cases h:k p.1=some .local
   ·rw [if_pos h,decide_eq_true h];rfl
   ·rw [if_neg h,decide_eq_false h];rfl))
theorem UX{ρ:Loc}:∀{b:List (Str×Value)},KR X b ρ->jv ρ x=some p->∃v,b.lookup x=some v/\VR X v p:=by
 induction ρ with
|nil=>exact λJ h=>xn h
|cons q ρ ih=>exact λr h=>vX r λv us rv rs=>mY (show cond (sq q.1 x) (some q.2) (jv ρ x)=some p from h) (λc h=>⟨v,by rw [bB,kj.mp c,beq_self_eq_true],ai h▸rv⟩) λc h=>(ih rs h).elim λu z=>⟨u,by rw [bB,beq_eq_false_iff_ne.mpr λe=>xf (c.symm.trans (kj.mpr e.symm))];exact z.1,z.2⟩
theorem UY{ρ:Loc}:∀{b:List (Str×Value)},KR X b ρ->b.map (·.1)=ρ.map (·.1):=by
 induction ρ with
|nil=>exact λr=>BU r rfl
|cons q ρ ih=>exact λr=>vX r λv us J rs=>congrArg (q.1::·) (ih rs)
theorem UZ:∀{k:Nat} {acc:List (Str×Addr)},(x,gA)∈names\/(∃c,acc.lookup x=some c)->∃c,(cellsFrom k names acc).lookup x=some c:=by
 induction names with
|nil=>exact λh=>h.elim (λh=>absurd h aU) id
|cons p r ih=>
  intro k acc h
  show ∃c,(if (p.2 == gA)=true then cellsFrom (k+1) r ((p.1,k)::acc) else cellsFrom k r acc).lookup x=some c
  by_cases q:(p.2 == gA)=true
  ·rw [if_pos q]
   refine ih ?_
   by_cases e:x=p.1
   ·exact .inr ⟨k,by rw [bB,e,beq_self_eq_true]⟩
   ·exact h.elim (λh=>(aB.mp h).elim (λz=>absurd (congrArg az z) e) .inl) λz=>z.elim λc z=>.inr ⟨c,by rw [bB,beq_eq_false_iff_ne.mpr e];exact z⟩
  ·rw [if_neg q]
   exact ih (h.imp (λh=>(aB.mp h).elim (λz=>absurd (beq_iff_eq.mpr (congrArg cP z).symm) q) id) id)
end
section
variable{w:World}{X:Em}{s:Shared}{k wf N:Nat}{ss:jF}{a:Addr}{vs:List PV}{ρ:Loc}{Q:PV->AH->Prop}{fi:rR}{o:Obj}{fd:FuncData}{dv:List Value}
theorem aia{s₁:Shared}{env:Env}{b:List (Str×Value)}(D:FnAt w a fi o fd dv)(hp:ρ.map (·.1)=rV fi.st)(kb:KR X b ρ)(B:Base w X η s.heap)(he:env=newEnv fd.scope s.heap.objs.size fd.globals (cellsFrom (s.heap.objs.size+1) fd.scope.names []) (fd.qualname++".<locals>.") (some a) fd.code none fd.builtins)
  (I:InCallC s env.locals (bindL env.kindOf b λJ=>none) env.cells (bindC env.kindOf b λJ=>none) s₁):Fr X (uc fi.st) env (yU (slotsOf fi.st) (pI (ρ.map cP) N)) s₁.heap:=by
 have eL:env.locals=s.heap.objs.size:=by rw [he];rfl
 have eC:env.cells=cellsFrom (s.heap.objs.size+1) fd.scope.names []:=by rw [he];rfl
 have eK:∀y,env.kindOf y=kindS (uc fi.st) y:=λy=>by
  rw [<-D.sc]
  exact (show env.kindOf y=fd.scope.names.lookup y by rw [he];rfl).trans (xB ..).symm
 have nd:(b.map (·.1)).Nodup:=by rw [UY kb,hp,<-D.pr];exact D.po.nd
 have jJ:∀{y p},yU (slotsOf fi.st) (pI (ρ.map cP) N) y=some p->jv ρ y=some p/\y∈rV fi.st:=λ{y p} g=>jz g λi hi hl=>by
  have e:jv ρ y=some p:=ah7 (k:=0) (rest:=ownNames (rV fi.st) (uc fi.st).names) (i:=i) (by rw [cU,hp];exact hi) hl
  exact ⟨e,hp▸aQ.mpr ⟨_,uf e,rfl⟩⟩
 have EX:∀{y},kindS (uc fi.st) y=some .cell->∃c,env.cells.lookup y=some c:=λ{y} h=>eC▸UZ (.inl (by rw [D.sc];exact uf h))
 have ok:=D.ok
 rw [D.sc] at ok
 refine xb ok λok1 CJ=>?_
 have nf:∀{y},kindS (uc fi.st) y≠some .free:=λh=>absurd rfl (of_decide_eq_false ((cM _).mp (aI.mp CJ _ (uf h))))
 have hi:∀{y c},env.cells.lookup y=some c->s.heap.objs.size<c:=λh=>eL▸I.above _ _ (mem_of_lookup h)
 exact {
  k:=(by rw [he];exact D.kd)
  g:=(by rw [he];exact D.gl)
  b:=(by rw [he];exact D.bi)
  kd:=λh=>.inl ((eK _).trans h)
  db:=Ut ok1
  ns:=⟨_,I.toInCall.ns,λh g=>(UX kb (jJ g).1).elim λv z=>⟨v,by rw [ah8,UW (decide_eq_true ((eK _).trans h)) nd,z.1];rfl,z.2⟩⟩
  ut:=B.off (aq eL.symm)
  ce:=λh=>⟨B.off (aD (hi h)),λe=>aM _ (eL▸e▸hi h),_,I.cell _ _ h⟩
  ap:=λh h'=>name_of_addr I.apart (mem_of_lookup h) (mem_of_lookup h')
  cv:=λ{y p} h g=>h.elim (λh=>(EX h).elim λc hc=>(UX kb (jJ g).1).elim λv z=>⟨c,v,hc,(by
   have:=I.cell _ _ hc
   rw [ah9,UW (by rw [eK,h];rfl) nd,z.1] at this
   exact this),z.2⟩) λh=>absurd h nf
  cl:=λh=>h.elim EX λh=>absurd h nf }
theorem U0{R:Result->Shared->Prop}(G:Good w tab)(D:FnAt w a fi o fd dv)(hm:xG (slotsOf fi.st)=true)(hs:Af tab n (uc fi.st) (slotsOf fi.st) (bodyOf fi.st)=some ss)(hb:Jr (rV fi.st) fi.dflt vs=some ρ)(hw:WS k ss wf (pI (ρ.map cP) N) η (nK Q))
  (B:Base w X η s.heap) (rs:jI X us vs) (rh:A.handled=none) (rd:A.depth+1+2*k<1000) (ru:A.units+3+16*k+16<9900) (q:∀{v s' Y p jt},Ext X s no Y s'->Base w Y jt s'.heap->VR Y v p->Q p jt->R (.ok (.ret v)) s'):codeAny (model pw w) A (.call (.ref a) ⟨us,[]⟩) R s:=by
 have obj:∀{c oc},(objs w.params)[c]?=some oc->s.heap.get? c=some oc:=λe=>B.fz (B.st e)
 refine codeAny_call_function (av (ah (aW _) (aG _ _)) rd) (obj D.ob) D.da D.co D.ge D.bo (D.cd.elim λc z=>z.elim λoc z=>z.elim λcs z=>z.elim λt z=>⟨c,oc,cs,t,z.1,obj z.2.1,z.2.2⟩) ?_
 have hp:=UR hb
 refine (ahW hb (D.dr X η s.heap B) rs).elim λb z=>?_
 have kb:=z.2
 have nm:=UY kb
 rw [hp] at nm
 refine ah5 (dv:=dv) (b:=b) D.po D.dl (λ{Q} hQ=>D.df.elim (λe=>e.1▸wpAny_pure (hQ none e.2.symm)) λz=>z.elim λd z=>z.elim λod z=>z.elim λm z=>z.1▸wpAny_seqItems (obj z.2.1) z.2.2 (hQ _ rfl)) (D.pr▸z.1) ?_
 rw [D.cl]
 refine wpAny_newFunctionEnv_cells D.kd (λx hx=>(D.bn x.1 (nm▸aQ.mpr ⟨x,hx,rfl⟩)).imp id λh=>⟨h,(UZ (k:=s.heap.objs.size+1) (acc:=[]) (.inl (mem_of_lookup h))).elim λc z=>z▸rfl⟩) λenv he s₁ I=>?_
 have keep:=I.toInCall.keep
 refine ⟨(G.nl B).keeps keep,codeAny_func ?_⟩
 have F:=aia (N:=N) D hp kb B he I
 have E0:Ext X s no X s₁:=I.toInCall.same.elim λUd z=>z.elim λtk z=>.grow keep (z▸rfl) (z▸rfl)
 refine ahU G n hs ⟨B.move λJ=>keep _ _,F,⟨rh,rd,ru⟩,hm⟩ hw λ{fl v s' Y lD jt} e C r hp=>?_
 have eL:env.locals=s.heap.objs.size:=by rw [he];rfl
 have E1:Ext X s no Y s':=E0.into e λc oc hc J q=>aM _ (aA (cH hc) ((EW q).elim (λq=>aq (q.trans eL).symm) λq=>q.elim λy q=>aD (eL▸I.above _ _ (mem_of_lookup q))))
 cases fl with
|next=>exact r▸q E1 C.B .none hp
|cont=>exact hp.elim
|ret p=>exact ay r λu z=>z.1▸q E1 C.B z.2 hp
end
end
set_option backward.match.sparseCases true
section
open PySem.SeqAt
section
variable{w:World}{X:Em}{jt:AH}{s s':Shared}{u x:Value}{v t p:PV}{b:Bool}{c:Addr}{z:PV×AH}{Q:Value->Shared->Prop}{E:Value->Shared->Prop}
theorem CK{K:Frag}{C:Addr}{t:String}(h:((clsIn K C).isSome && typeIn K (.ref C) == some (.type "type"))=true){l:List Value}(hm:fastBuiltinMro t=some l)(hl:l.contains (.ref C)=false):kitOne K (.type t) (.ref C)=some false:=by
 unfold kitOne kitCls
 rw [if_neg (show ¬ ((Value.type t == eu C)=true) from nofun)]
 dsimp only
 rw [if_pos h]
 show (fastBuiltinMro t).map (·.contains (.ref C))=_
 rw [hm]
 exact congrArg some hl
noncomputable abbrev U1:List String:=["NoneType","bool","int","str","tuple"]
noncomputable abbrev U2:List String:=["bool","int","str"]
theorem aib{K:Frag}:(U1.all λt=>U2.all λn=>kitOne K (.type t) (.type n) == some (t == n || (t == "bool" && n == "int")))=true:=by kernel_rfl
theorem aic{t:String}(h:zY v=some t):t∈U1:=by
 cases v<;>first|exact xn h|exact ai h▸by decide
theorem aid{n:String}(c:(n == "bool" || n == "int" || n == "str")=true):n∈U2:=((bC ..).mp c).elim (λc=>((bC ..).mp c).elim (λc=>beq_iff_eq.mp c▸by decide) λc=>beq_iff_eq.mp c▸by decide) λc=>beq_iff_eq.mp c▸by decide
theorem aie{K:Frag}{t:String}{C:Addr}(h:zY v=some t)(hc:((clsIn K C).isSome && typeIn K (.ref C) == some (.type "type"))=true):kitOne K (.type t) (.ref C)=some false:=by
 induction v using PV.casesOn with
|none=>exact ai h▸CK hc (l:=[.type "NoneType",.type "object"]) (by kernel_rfl) rfl
|bool _=>exact ai h▸CK hc (l:=[.type "bool",.type "int",.type "object"]) (by kernel_rfl) rfl
|int _=>exact ai h▸CK hc (l:=[.type "int",.type "object"]) (by kernel_rfl) rfl
|str _=>exact ai h▸CK hc (l:=[.type "str",.type "object"]) (by kernel_rfl) rfl
|tup _=>exact ai h▸CK hc (l:=[.type "tuple",.type "object"]) (by kernel_rfl) rfl
|_=>exact xn h
theorem U3{t:String}(r:VR X u v)(B:Base w X η s.heap)(h:zY v=some t)(e:kitOne (Kf w.params) (.type t) x=some b)(k:∀tk,Q (.bool b) { s with toks:=tk }):wpAny (model pw w) A (call (.builtin "isinstance") [u,x]) Q E s:=by
 induction v using PV.casesOn with
|none=>exact vN r (kia_one kitx_none B.kf trivial (ai h▸e) nofun k)
|bool _=>exact vB r (kia_one kitx_bool B.kf trivial (ai h▸e) nofun k)
|int _=>exact vI r λJ=>kia_one kitx_int B.kf trivial (ai h▸e) nofun k
|str _=>exact vS r λJ=>kia_one kitx_str B.kf trivial (ai h▸e) nofun k
|tup _=>exact vU r λJ J J ea J=>kia_one kitx_tuple B.kf ⟨_,B.fz ea,rfl⟩ (ai h▸e) nofun k
|_=>exact xn h
theorem U4{bs:List Addr}(BO:Fq w.params tab)(r:VR X u v)(B:Base w X η s.heap)(h:clsOf v η=some c)(hb:jL tab.bases c=some bs)(e:kitOne (Kf w.params) (.ref c) x=some b)(k:∀tk,Q (.bool b) { s with toks:=tk }):wpAny (model pw w) A (call (.builtin "isinstance") [u,x]) Q E s:=
 jz h λo e1 h=>jH h λd e2 e3=>EQ (v:=u) B (uW e1▸r) (EI e2) λa dx m o ea ed I lk J J=>
  have C:=BO.c _ _ hb
  kia_one (kitx_own C.hg C.hd C.ha C.hn C.ht C.hm) B.kf (e3▸I) e nofun k
theorem U5{f:String->Option Bool}{g:Addr->Option Bool}{G:Prop}(h:yF v η f g=some b)(a:∀t,zY v=some t->f t=some b->G)(c:∀c,clsOf v η=some c->g c=some b->G):G:=by
 unfold yF at h
 cases e:zY v with
|none=>rw [e] at h;exact jz h λk e h=>c k e h
|some t=>rw [e] at h;exact a t e h
theorem aif(BO:Fq w.params tab)(h:Q8 v t tab η=some b)(r:VR X u v)(rt:VR X x t)(B:Base w X η s.heap)(k:∀tk,Q (.bool b) { s with toks:=tk }):wpAny (model pw w) A (call (.builtin "isinstance") [u,x]) Q E s:=by
 refine jz h λy e h1=>vT (v:=x) (KJ e▸rt) λJ=>?_
 clear h rt e
 induction y using Value.casesOn with
|«type» m=>exact xc h1 λc h=>U5 h (λt e h=>U3 r B e (h▸beq_iff_eq.mp (aI.mp (aI.mp aib t (aic e)) m (aid c))) k) λc' e h=>jH h λbs hb e2=>U4 BO r B e hb (e2▸((bC ..).mp c).elim (λc=>((bC ..).mp c).elim (λc=>beq_iff_eq.mp c▸(BO.c _ _ hb).pb) λc=>beq_iff_eq.mp c▸(BO.c _ _ hb).pi) λc=>beq_iff_eq.mp c▸(BO.c _ _ hb).ps) k
|ref a=>exact xc h1 λc h=>(cz.mp c).elim λCv hc=>U5 h (λt e h=>U3 r B e (h▸aie e (BO.c _ _ hc).cl) k) λc' e h=>jH h λbs hb e2=>U4 BO r B e hb (e2▸BO.m _ _ _ _ hb hc) k
|_=>exact xn h1
theorem aih{l:List (Str×PV)}:∀{kvs:List (Str×Value)} {vs:List Value},KR X kvs l->vs.length=kvs.length->(∀(j:Nat) (v:Value),vs[j]?=some v->∃k x,kvs[j]?=some (k,x)/\(PySem.strKind pw w).is k v=true)->jI X vs (l.map λp=>.str p.1):=by
 induction l with
|nil=>exact λ{_ vs} R hl _=>iJ (hl.trans (ug R))
|cons p l ih=>
  intro kvs vs R hl h
  cases vs with
 |nil=>exact nomatch hl.trans (ug R)
 |cons a b=>exact vX (R:=λkvs=>(a::b).length=kvs.length->(∀(j:Nat) (v:Value),(a::b)[j]?=some v->∃k x,kvs[j]?=some (k,x)/\(PySem.strKind pw w).is k v=true)->jI X (a::b) ((p::l).map λp=>.str p.1)) R (λv us J rs hl h=>.cons ((h 0 a rfl).elim λk z=>z.elim λx z=>Uj (w:=w) ((show k=p.1 from congrArg az (ai z.1).symm)▸z.2)) (ih rs (dQ hl) λj v e=>h (j+1) v e)) hl h
section
variable(B:Base w X η s.heap)(rv:VR X u v)(k:∀{v s'},GE w X s z.2 z.1 v s'->Q v s')
include B rv k
theorem aii(h:Q9 v η=some z):wpAny (model pw w) A (call (.builtin "len") [u]) Q E s:=by
 have go:∀{l:List PV} {ws:List Value} {a:Addr},s.heap.IsList a ws.toArray->jI X ws l->cond (kY l.length) (some (PV.int l.length,η)) none=some z->wpAny (model pw w) A (call (.builtin "len") [.ref a]) Q E s:=λ{l ws a} hl q h=>xc h λc h=>
  call_len_list hl (dY (cF.mpr (xO q c (ak _))) (dc rfl)) (by rw [bM,q.length];exact k (ai h▸.tok B (.int _ _)))
 induction v using PV.casesOn with
|fl l=>exact vF rv λa o ws n e0 ec ed q=>go ⟨_,B.fz e0,ec,_,ed⟩ q h
|ref r i=>exact jz (show (oJ (.ref r i) η).bind _=_ from h) λl hl h=>xC B hl rv λa ws n e q=>go (oW e) q h
|_=>exact xn h
theorem aij(h:Ra v η=some z):wpAny (model pw w) A (call (.builtin "abs") [u]) Q E s:=jH h λi hi e=>uh (v:=u) hi rv λt=>call_abs_int λu tk=>by
 by_cases c:i<0
 ·rw [if_pos c]
  exact k (e▸.tok B (Int.ofNat_natAbs_of_nonpos (eO c)▸.int _ _))
 ·rw [if_neg c]
  exact k (e▸.tok B ((Int.natAbs_of_nonneg (eP.mp c)).symm▸.int _ _))
theorem aik(SO:Cw w)(rh:A.handled=none)(ru:A.units+20<9900)(h:Rf v η=some z):wpAny (model pw w) A (call (.builtin "sorted") [u]) Q E s:=
 jz h λl hl h=>xc h λc h=>xb c λc1 c2=>jH h λl' hs e=>xC B hl rv λa ws n e1 q=>SO rh ru e1 q c1 c2 hs B λg=>k (e▸g)
theorem ail(h:Rb v η=some z):wpAny (model pw w) A (call (.type "range") [u]) Q E s:=
 jz h λi hi h=>xc h λJ h=>uh hi rv λt=>call_range_1 (k (ai h▸frozen (t:=s.toks+2) B { cls:=.type "range",data:=.fields #[.int 0 s.toks,.int i t,.int 1 (s.toks+1)] } rfl λJ e=>.mU e ⟨_,_,_,rfl⟩))
theorem aim(h:Rd v η=some z):wpAny (model pw w) A (call (.type "int") [u]) Q E s:=by
 induction v using PV.casesOn with
|bool b=>exact vB rv (call_int_bool (by cases b<;>exact k (ai h▸.tok B (.int _ _))))
|_=>exact xn h
theorem ain(h:Rg v η=some z):wpAny (model pw w) A (call (.type "dict") [u]) Q E s:=
 jz h λl hl h=>xc h λc h=>T9 B hl rv λr i uu a kvs e1 e2 ea g D R nd=>e2▸kt_call_dict (knd:=strKind pw w) (B.v7 ea) D (by rw [ug R];exact ah (qH c) (dc rfl)) λh' D' Cy=>
  k (ai h▸T5 (s₁:={ s with heap:=s.heap.push { cls:=.type "dict",data:=.dict #[] } }) (t:=s.toks) (.push (t:=s.toks) ..) (B.push _) (bJ (ak _)) (B.off (ak _)) Cy D' R)
theorem aio(rh:A.handled=none)(h:listE v η=some z):wpAny (model pw w) A (call (.type "list") [u]) Q E s:=
 jz h λl hl h=>xc h λc h=>jz hl λy e hl=>jH hl λd g e'=>yI (v:=u) B (uW e▸rv) (EH g) λa kvs e0 ea J D R=>kdl_call (kdl_dict (knd:=strKind pw w) (B.v7 ea)) rh D (by rw [ug R,e'];exact ah (qH c) (dc rfl)) λh' tk xP c' hk hD Ak=>by
  have B':Base w X η h':=B.move λJ e=>hk _ _ e
  have hvs:=aih (e'▸R) (vs:=xP.toList) (by rw [ez];exact Ak.1) λj v e=>Ak.2 j v (by rw [<-gB];exact e)
  exact k (ai h▸made (s₁:={ s with heap:=h',toks:=tk }) (d:=none) (e:=none) (.grow hk rfl rfl) B' (λ{c} z=>z.elim (λz=>z▸⟨bJ (ak _),B.off (ak _),_,hD⟩) xn) (λz=>xn z) (λJ h=>h) xn ⟨xP.toList,c',hD,hvs.mono B'.zS⟩)
end
theorem FJ{m:String}(h:Ca u m=true):u=.builtin m:=by
 cases u<;>first|exact xf h|exact congrArg Value.builtin (beq_iff_eq.mp h)
theorem aip{vs:List PV}(G:Good w tab)(h:qF tab u vs η=some z)(B:Base w X η s.heap)(rs:jI X us vs)(rh:A.handled=none)(ru:A.units+20<9900)(k:∀{v s'},GE w X s z.2 z.1 v s'->Q v s'):wpAny (model pw w) A (call u us) Q E s:=
 mY h (λc h=>FJ c▸jz h λp hp h=>jH h λb hb e=>vs2 (vs:=us) (Rk hp▸rs) λv t r1 r2=>aif G.b hb r1 r2 B λtk=>k (e▸.tok B (.bool b))) λJ h=>jz h λv hv h=>Jw (vs:=us) (xD hv▸rs) λx r=>
  mY h (λc h=>FJ c▸aii B r k h) λJ h=>mY h (λc h=>FJ c▸aij B r k h) λJ h=>mY h (λc h=>FJ c▸aik B r k G.s rh ru h) λJ h=>
  mY h (λc h=>CH c▸ail B r k h) λJ h=>mY h (λc h=>CH c▸aim B r k h) λJ h=>mY h (λc h=>CH c▸ain B r k h) λJ h=>mY h (λc h=>CH c▸aio B r k rh h) λJ h=>xn h
end
end
section
open PySem.SeqAt
section
variable{w:World}{X:Em}{s:Shared}{k N nn:Nat}{ss:jF}{a c:Addr}{as vs:List PV}{Q:PV->AH->Prop}
theorem aiq(B:Base w X η s.heap):GE w X s (η.add (.inst c [])) (.ref η.reg η.ju) (.ref (s.heap.objs.size+1)) { s with heap:=(s.heap.push emptyDict).push (instObj c s.heap.objs.size) }:=
 have up:∀{a o},s.heap.get? a=some o->((s.heap.push emptyDict).push (instObj c s.heap.objs.size)).get? a=some o:=λh=>bS _ (bS _ h)
 have g0:((s.heap.push emptyDict).push (instObj c s.heap.objs.size)).get? s.heap.objs.size=some emptyDict:=bS _ (bK _ rfl)
 have g1:((s.heap.push emptyDict).push (instObj c s.heap.objs.size)).get? (s.heap.objs.size+1)=some (instObj c s.heap.objs.size):=Heap.size_push s.heap emptyDict▸bK _ rfl
 made (s₁:=s) (t:=s.toks) (d:=some s.heap.objs.size) (e:=none) (.refl ..) B (λ{c} z=>z.elim (λz=>z▸⟨bJ (aW _),B.off (aW _),_,g1⟩) λz=>ai z▸⟨bJ (ak _),B.off (ak _),_,g0⟩) (λz=>bI (bG _) (ai z)) (λJ h=>up h) xn
  ⟨s.heap.objs.size,λJ=>none,rfl,g1,⟨emptyDict,#[],0,g0,rfl,λe he=>by simp at he,λJ=>rfl,ak _⟩,λJ=>.inl ⟨rfl,rfl⟩⟩
theorem U6{G:Prop}(hc:codeOf tab a n=some (nn,ss))(hb:s7 tab a vs=some as)(k:∀{fi ρ},jL tab.pV a=some fi->xG (slotsOf fi.st)=true->Af tab n (uc fi.st) (slotsOf fi.st) (bodyOf fi.st)=some ss->Jr (rV fi.st) fi.dflt vs=some ρ->ρ.map cP=as->G):G:=
 jz hc λfi hf h=>xc h λhm h=>jH h λs hs e=>jz hb λfi' hf' h=>jH h λρ CL e'=>by
  obtain rfl:=ai (hf'.symm.trans hf)
  exact k hf hm ((cL e).2▸hs) CL e'
theorem uX.fn{m:Nat}(r:uX A m)(h:k+1<=m):A.depth+1+1+2*k<1000/\A.units+1+3+16*k+16<9900:=
 have r:=r.less h
 have d:A.depth+(2*k+2)<1000:=r.d
 have u:A.units+(16*k+16)+16<9900:=r.u
 ⟨av (aq (by rw [bX (2*k),bH A.depth,bH A.depth])) d,av (aT (by rw [bH A.units,bH A.units,bX (1+3)];exact aF (aF (dc rfl) _) _) _) u⟩
theorem jw.KS(wf:Nat)(hc:codeOf tab a n=some (nn,ss))(hb:s7 tab a vs=some as)(hw:WS k ss wf (pI as N) η (nK λv η=>Q v (mk a η))):jw (k+n+wf+1) (.st (.ref a)) vs η Q:=
 U6 hc hb @λfi ρ hf hm hs CL e J G X s A g us R E B r rs rm q=>vT (v:=g) r λJ=>(G.fn hf).elim λo z=>z.elim λfd z=>z.elim λdv D=>
  have L:=rm.fn (k:=k) (aL (ah (aG ..) (aG ..)))
  wpAny_call (U0 (N:=N) (wf:=wf) (k:=k) G D hm hs CL (e▸hw) B rs rm.h (av (aT (aW _) _) L.1) (av (aT (aT (aT (aW _) _) _) _) L.2) λ{v s' Y p jt} e1 B1 r1 hq=>q e1 (by
   unfold mk
   cases MK.any (aj · a)
   ·exact B1
   ·exact B1.afj) r1 hq)
theorem jw.fn(w:Nat)(hc:codeOf tab a n=some (nn,ss))(hm:MK.any (aj · a)=false)(hb:s7 tab a vs=some as)(hw:WS k ss w (pI as N) η (nK Q)):jw (k+n+w+1) (.st (.ref a)) vs η Q:=by
 refine jw.KS (N:=N) w hc hb ?_
 unfold mk
 rw [hm]
 exact hw
theorem jw.cls{c:Addr}(w:Nat)(h1:jL tab.pV c=none)(h2:jL tab.oU c=some a)(hc:codeOf tab a n=some (nn,ss))(hb:s7 tab a (.ref η.reg η.ju::vs)=some as)
  (hw:WS k ss w (pI as N) (η.add (.inst c [])) (nK λv jt=>v=.none/\Q (.ref η.reg η.ju) jt)):jw (k+n+w+1) (.st (.ref c)) vs η Q:=
 U6 hc hb @λfi ρ hf hm hs CL e J G X s A g us R E B r rs rm q=>vT (v:=g) r λJ=>(G.fn hf).elim λo z=>z.elim λfd z=>z.elim λdv D=>by
  have L:=rm.fn (k:=k) (aL (ah (aG ..) (aG ..)))
  have I:=G.i h2
  refine wpAny_call ?_
  have kf:=B.kf
  refine (aiq (c:=c) B).casesOn λ{Y} E0 B0 r0=>?_
  obtain ⟨hh,gg,d,t,os⟩:=s
  refine make_core (makes_of kf I.ms) (looks_findIn kf I.fi) (λself=>bind_fn kf self I.ty) (.inl rfl) (U0 (N:=N) (wf:=w) (k:=k) G D hm hs CL (e▸hw) B0 (.cons r0 (rs.mono E0.le)) rm.h L.1 L.2 λ{v s' Z p jt} e1 B1 r1 hq=>?_)
  exact ⟨vN (v:=v) (hq.1▸r1) rfl,q (E0.trans e1) B1 (r0.mono e1.le) hq.2⟩
theorem jw.blt{f:Value}{v:PV}{jt:AH}(hf:∀a,f≠.ref a)(h:qF tab f vs η=some (v,jt))(q:Q v jt):jw (k+1) (.st f) vs η Q:=
 @λw G X s A g us R E B r rs rm c=>vT (v:=g) r λJ=>aip G h B rs rm.h (av (aF (show 20<=16*(k+1)+16 from aT (ah (dc rfl) (bE 16 (bR 1 k))) 16) _) rm.u) λg=>g.casesOn λe B r=>c e B r q
end
end
set_option backward.match.sparseCases false
section
abbrev Rx:=X->Sl->AH->Option (PV×AH)
noncomputable abbrev Rc:=PV->List PV->AH->Option (PV×AH)
abbrev Rs:=jF->Sl->AH->Option (Fl×Sl×AH)
noncomputable def rL(f:Rx):Xs->Sl->AH->Option (List PV×AH)
|.nil,_,η=>some ([],η)
|.cons x r,e,η=>(f x e η).bind λp=>(rL f r e p.2).map λq=>(p.1::q.1,q.2)
def rP(f:Rx):Ps->Sl->AH->List (Str×PV)->Option (List (Str×PV)×AH)
|.nil,_,η,acc=>some (acc,η)
|.cons a b r,e,η,acc=>(f a e η).bind λp=>(gS p.1).bind λx=>(f b e p.2).bind λq=>rP f r e q.2 (jN acc x q.1)
def rT(f:Rx):Xs->Sl->AH->Option (Bool×AH)
|.nil,_,η=>some (true,η)
|.cons x r,e,η=>(f x e η).bind λp=>(ng p.1 p.2).bind λb=>cond b (rT f r e p.2) (some (false,p.2))
def FL(f:Rx)(ifs:Xs)(em:Sl->AH->Option AH)(tg:Tg)(S:Src):Nat->Nat->Sl->AH->Option AH
|0,_,_,_=>none
|n+1,i,e,η=>(S.at i η).bind λo=>match o with
 |none=>some η
 |some v=>(tg.bind v e).bind λe'=>(rT f ifs e' η).bind λp=>cond p.1 ((em e' p.2).bind λη=>FL f ifs em tg S n (i+1) e' η) (FL f ifs em tg S n (i+1) e' p.2)
def rM(cl:Rc)(m:MS)(nm:Str)(vs:List PV)(η:AH):Option (PV×AH):=match m with
|.fn f o=>match o with
 |some o=>cl (.st (.ref f)) (o::vs) η
 |none=>cl (.st (.ref f)) vs η
|m=>ua tab m nm vs η
def U7(f:Rx)(cl:Rc)(x:X)(e:Sl)(η:AH):Option (PV×AH):=match x with
|.k v=>some (v,η)
|.v i=>(look e i).map (·,η)
|.bin op a b=>(f a e η).bind λp=>(f b e p.2).bind λq=>qZ op p.1 q.1 q.2
|.no a=>(f a e η).bind λp=>(ng p.1 p.2).map λb=>(.bool (!b),p.2)
|.wA c a b=>(f a e η).bind λp=>(ng p.1 p.2).bind λt=>cond (t == c) (f b e p.2) (some p)
|.sX t a b=>(f t e η).bind λp=>(ng p.1 p.2).bind λt=>cond t (f a e p.2) (f b e p.2)
|.jE=>some (.ref η.reg η.ju,η.add .jE)
|.dict ps=>(rP f ps e η []).map λp=>(.ref p.2.reg p.2.ju,p.2.add (.sd p.1 0))
|.list es=>(rL f es e η).bind λp=>cond (kY p.1.length) (some (t5 p.2 p.1)) none
|.tup es=>(rL f es e η).bind λp=>cond (kY p.1.length) (some (.tup p.1,p.2)) none
|.ve elt tg it ifs fr ls=>(f it e η).bind λp=>(t6 p.1 p.2).bind λS=>cond (allB e fr) ((FL f ifs (λe' jt=>(f elt e' jt).bind λq=>xt p.2.reg p.2.ju q.1 q.2) tg S (S.len p.2+1) 0 (clear e ls) (p.2.add (.list []))).map λjt=>(.ref p.2.reg p.2.ju,jt)) none
|.cmp op a b=>(f a e η).bind λp=>(f b e p.2).bind λq=>(nh op p.1 q.1 q.2).map λc=>(.bool c,q.2)
|.mr o nm as=>(f o e η).bind λp=>(pN tab p.1 nm p.2).bind λm=>(rL f as e p.2).bind λq=>rM cl m nm q.1 q.2
|.call g as=>(rL f as e η).bind λp=>cl g p.1 p.2
|.attr o a=>(f o e η).bind λp=>(kE tab p.1 a p.2).map (·,p.2)
|.item o i=>(f o e η).bind λp=>(f i e p.2).bind λq=>(jR tab p.1 q.1 q.2).map (·,q.2)
|_=>none
def rX(cl:Rc):Nat->Rx
|0=>λJ J J=>none
|n+1=>U7 (rX cl n) cl
def KV(f:Rx)(t:Tt)(v:PV)(e:Sl)(η:AH):Option (Sl×AH):=match t with
|.loc i=>some (put e i (some v),η)
|.nj o a=>(f o e η).bind λp=>(sO tab p.1 a v p.2).map (e,·)
|.nZ o i=>(f o e η).bind λp=>(f i e p.2).bind λq=>(nv p.1 q.1 v q.2).map (e,·)
def KW(f:Rx):List Tt->List PV->Sl->AH->Option (Sl×AH)
|[],[],e,η=>some (e,η)
|t::ts,v::vs,e,η=>(KV f t v e η).bind λp=>KW f ts vs p.1 p.2
|_,_,_,_=>none
def KX(B:Sl->AH->Option (Fl×Sl×AH))(tg:Tg)(S:Src):Nat->Nat->Sl->AH->Option (Fl×Sl×AH)
|0,_,_,_=>none
|n+1,i,e,η=>(S.at i η).bind λo=>match o with
 |none=>some (.next,e,η)
 |some v=>(tg.bind v e).bind λe'=>(B e' η).bind λp=>match p.1 with
  |.ret _=>some p
  |_=>KX B tg S n (i+1) p.2.1 p.2.2
def KY(f:Rx)(t:X)(B:Sl->AH->Option (Fl×Sl×AH)):Nat->Sl->AH->Option (Fl×Sl×AH)
|0,_,_=>none
|w+1,e,η=>(f t e η).bind λp=>(ng p.1 p.2).bind λc=>cond c ((B e p.2).bind λq=>match q.1 with
  |.ret _=>some q
  |_=>KY f t B w q.2.1 q.2.2) (some (.next,e,p.2))
def FN(f:Rx)(b b0:Rs)(w:Nat)(x:St)(e:Sl)(η:AH):Option (Fl×Sl×AH):=match x with
|.expr x=>(f x e η).bind λp=>cond (mJ p.1) (some (.next,e,p.2)) none
|.asg t x=>(f x e η).bind λp=>(KV f t p.1 e p.2).map (.next,·)
|.vf ts x=>(f x e η).bind λp=>(gT p.1).bind λl=>cond (aj l.length ts.length) ((KW f ts l e p.2).map (.next,·)) none
|.aug o a x=>(f o e η).bind λp=>(kE tab p.1 a p.2).bind λu=>(gI u).bind λi=>(f x e p.2).bind λq=>(gI q.1).bind λj=>(sO tab p.1 a (.int (i+j)) q.2).map (.next,e,·)
|.ite t a c=>(f t e η).bind λp=>(ng p.1 p.2).bind λt=>cond t (b a e p.2) (b c e p.2)
|.for rv tg it bd=>(f it e η).bind λp=>(rU rv p.1 p.2).bind λS=>KX (b bd) tg S (S.len p.2+1) 0 e p.2
|.ret x=>(f x e η).map λp=>(.ret p.1,e,p.2)
|.ri t bd=>KY f t (b0 bd) w e η
|_=>none
def rS(f:Rx):Nat->Nat->Rs
|0,_=>λJ J J=>none
|n+1,w=>λb e η=>match b with
 |.nil=>some (.next,e,η)
 |.cons x r=>(FN f (rS f n w) (rS f n 0) w x e η).bind λp=>match p.1 with
  |.next=>rS f n w r p.2.1 p.2.2
  |_=>some p
noncomputable def KZ:Fl->Option PV
|.ret v=>some v
|.next=>some .none
|.cont=>none
set_option genCtorIdx false in
structure xQ where
 m:Nat
 nn:Nat
 ss:jF
def rC(T:List (Addr×xQ)):Nat->Nat->Rc
|0,_=>λJ J J=>none
|n+1,k=>λf vs η=>(gV f).bind λy=>match y with
 |.ref a=>match jL tab.pV a with
  |some _=>(jL T a).bind λc=>cond (bA (c.m+8+1) k && !MK.any (aj · a)) ((s7 tab a vs).bind λas=>(rS (rX (rC T n (k - (c.m+8+1))) 15) 25 8 c.ss (pI as (c.nn+3)) η).bind λp=>(KZ p.1).map (·,p.2.2)) none
  |none=>(jL tab.oU a).bind λi=>(jL T i).bind λc=>cond (bA (c.m+8+1) k) ((s7 tab i (.ref η.reg η.ju::vs)).bind λas=>(rS (rX (rC T n (k - (c.m+8+1))) 15) 25 8 c.ss (pI as (c.nn+3)) (η.add (.inst a []))).bind λp=>(KZ p.1).bind λv=>cond (mJ v) (some (.ref η.reg η.ju,p.2.2)) none) none
 |y=>cond (bA 1 k) (qF tab y vs η) none
def SX(k:Nat)(f:Rx):Prop:=∀{x e η v jt},f x e η=some (v,jt)->∀{Q},Q v jt->W k x e η Q
def SC(k:Nat)(c:Rc):Prop:=∀{f vs η v jt},c f vs η=some (v,jt)->∀{Q},Q v jt->jw k f vs η Q
def SS(k w:Nat)(b:Rs):Prop:=∀{x e η fl e' jt},b x e η=some (fl,e',jt)->∀{Q},Q fl e' jt->WS k x w e η Q
section
variable{k w:Nat}{f:Rx}{cl:Rc}{b b0:Rs}{e e':Sl}{jt:AH}{v:PV}
theorem nS{α β:Type}{a c:α}{b d:β}(G:α->β->Prop)(h:(a,b)=(c,d))(q:G c d):G a b:=(cL h).1.symm▸(cL h).2.symm▸q
theorem CM(H:SX k f):∀{xs:Xs} {η jt:AH} {vs:List PV} {Q:List PV->AH->Prop},rL f xs e η=some (vs,jt)->Q vs jt->WL k xs e η Q
|.nil,_,_,_,Q,h,q=>nS Q (ai h) q
|.cons x r,_,_,_,Q,h,q=>jz h λp h1 h=>jH h λq' h2 h3=>H h1 (CM H h2 (nS Q h3 q))
theorem U8(H:SX k f):∀{xs:Ps} {η:AH} {acc l:List (Str×PV)} {Q:List (Str×PV)->AH->Prop},rP f xs e η acc=some (l,jt)->Q l jt->WP k xs e η acc Q
|.nil,_,_,_,Q,h,q=>nS Q (ai h) q
|.cons x y r,_,_,_,_,h,q=>jz h λp h1 h=>jz h λs hs h=>jz h λp2 h2 h=>H h1 ⟨s,wc hs,H h2 (U8 H h q)⟩
theorem U9(H:SX k f):∀{xs:Xs} {η:AH} {b:Bool} {Q:Bool->AH->Prop},rT f xs e η=some (b,jt)->Q b jt->TL k xs e η Q
|.nil,_,_,Q,h,q=>nS Q (ai h) q
|.cons x r,_,_,Q,h,q=>jz h λp h1 h=>jz h λb hb h=>mY h (λc h=>H h1 ⟨b,hb,λJ=>U9 H h q,λz=>xf (z.symm.trans c)⟩) λc h=>H h1 ⟨b,hb,λz=>xf (c.symm.trans z),λJ=>nS Q (ai h) q⟩
theorem La(H:SX k f){ifs:Xs}{em:Sl->AH->Option AH}{EM:Sl->AH->(AH->Prop)->Prop}(he:∀{e η jt},em e η=some jt->∀{Q},Q jt->EM e η Q){tg:Tg}{S:Src}:∀{n i:Nat} {e:Sl} {η:AH} {Q:AH->Prop},FL f ifs em tg S n i e η=some jt->Q jt->pH (TL k ifs) EM tg S n i e η Q
|0,_,_,_,_,h,_=>xn h
|n+1,i,e,η,Q,h,q=>jz h λo ho h=>⟨o,ho,by
  cases o with
 |none=>exact ai h▸q
 |some v=>exact jz h λe' hb h=>jz h λp hi h=>⟨e',hb,U9 H hi (mY h (λc h=>⟨λJ=>jz h λuA h1 h=>he h1 (La H he h q),λz=>xf (z.symm.trans c)⟩) λc h=>⟨λz=>xf (c.symm.trans z),λJ=>La H he h q⟩)⟩⟩
theorem air(C:SC k cl){m:MS}{vs:List PV}{Q:PV->AH->Prop}(h:rM cl m nm vs η=some (v,jt))(q:Q v jt):WM k m nm vs η Q:=by
 cases m with
|fn g o=>cases o<;>exact C h q
|_=>exact ⟨v,jt,h,q⟩
theorem ais(H:SX k f)(C:SC k cl):SX k (U7 f cl):=by
 intro x e η v jt h Q q
 cases x with
|k v=>exact nS Q (ai h) q
|v i=>exact jH h λu h1 h=>⟨u,h1,nS Q h q⟩
|bin op a b=>exact jz h λp h1 h=>jz h λp2 h2 h=>H h1 (H h2 ⟨v,jt,h,q⟩)
|no a=>exact jz h λp h1 h=>jH h λb h2 h=>H h1 ⟨b,h2,nS Q h q⟩
|wA c a b=>exact jz h λp h1 h=>jz h λt ht h=>H h1 ⟨t,ht,mY h (λz h=>⟨λJ=>H h q,λy=>by rw [y] at z;cases c<;>exact xf z⟩) λz h=>⟨λy=>by rw [y,beq_self_eq_true] at z;exact xf z.symm,λJ=>nS Q (ai h) q⟩⟩
|sX t a b=>exact jz h λp h1 h=>jz h λt ht h=>H h1 ⟨t,ht,mY h (λz h=>⟨λJ=>H h q,λy=>xf (y.symm.trans z)⟩) λz h=>⟨λy=>xf (z.symm.trans y),λJ=>H h q⟩⟩
|jE=>exact nS Q (ai h) q
|dict ps=>exact jH h λp h1 h=>U8 H h1 (nS Q h q)
|list es=>exact jz h λp h1 h=>xc h λc h=>CM H h1 ⟨c,nS Q (ai h) q⟩
|tup es=>exact jz h λp h1 h=>xc h λc h=>CM H h1 ⟨c,nS Q (ai h) q⟩
|ve elt tg it ifs fr ls=>exact jz h λp h1 h=>jz h λS hS h=>xc h λc h=>jH h λuA h2 h=>H h1 ⟨S,hS,c,La H (λh Q q=>jz h λp h1 h=>H h1 ⟨_,h,q⟩) h2 (nS Q h q)⟩
|cmp op a b=>exact jz h λp h1 h=>jz h λp2 h2 h=>jH h λc h3 h=>H h1 (H h2 ⟨c,h3,nS Q h q⟩)
|mr o nm as=>exact jz h λp h1 h=>jz h λm h2 h=>jz h λp2 h3 h=>H h1 ⟨m,h2,CM H h3 (air C h q)⟩
|call g as=>exact jz h λp h1 h=>CM H h1 (C h q)
|attr o a=>exact jz h λp h1 h=>jH h λu h2 h=>H h1 ⟨u,h2,nS Q h q⟩
|item o i=>exact jz h λp h1 h=>jz h λp2 h2 h=>jH h λu h3 h=>H h1 (H h2 ⟨u,h3,nS Q h q⟩)
|_=>exact xn h
theorem Lb(C:SC k cl)(n:Nat):SX k (rX cl n):=by
 induction n with
|zero=>exact λh=>xn h
|succ n ih=>exact ais ih C
theorem U'(H:SX k f){t:Tt}{Q:Sl->AH->Prop}(h:KV f t v e η=some (e',jt))(q:Q e' jt):Wt k t v e η Q:=by
 cases t with
|loc i=>exact nS Q (ai h) q
|nj o a=>exact jz h λp h1 h=>jH h λuA h2 h=>H h1 ⟨uA,h2,nS Q h q⟩
|nZ o i=>exact jz h λp h1 h=>jz h λp2 h2 h=>jH h λuA h3 h=>H h1 (H h2 ⟨uA,h3,nS Q h q⟩)
theorem ait(H:SX k f){ts:List Tt}:∀{vs:List PV} {e:Sl} {η:AH} {Q:Sl->AH->Prop},KW f ts vs e η=some (e',jt)->Q e' jt->ux k ts vs e η Q:=by
 induction ts with
|nil=>exact λ{vs _ _ Q} h q=>match vs,h with
 |[],h=>nS Q (ai h) q
 |_::_,h=>xn h
|cons t ts ih=>exact λ{vs _ _ _} h q=>match vs,h with
 |[],h=>xn h
 |v::vs,h=>jz h λp h1 h=>U' H h1 (ih h q)
theorem s8{α β γ:Type}{a d:α}{b e:β}{c f:γ}(G:α->β->γ->Prop)(h:(a,b,c)=(d,e,f))(q:G d e f):G a b c:=nS (λa p=>G a p.1 p.2) h q
theorem aiu{B:Sl->AH->Option (Fl×Sl×AH)}{WB:Sl->AH->(Fl->Sl->AH->Prop)->Prop}(HB:∀{e η fl e' jt},B e η=some (fl,e',jt)->∀{Q},Q fl e' jt->WB e η Q){tg:Tg}{S:Src}{fl:Fl}:∀{i:Nat} {e:Sl} {η:AH} {Q:Fl->Sl->AH->Prop},KX B tg S n i e η=some (fl,e',jt)->Q fl e' jt->o9 WB tg S n i e η Q:=by
 induction n with
|zero=>exact λh J=>xn h
|succ n ih=>
  refine λ{i e η Q} h q=>jz h λo ho h=>⟨o,ho,?_⟩
  clear ho
  cases o with
 |none=>exact s8 Q (ai h) q
 |some v=>
   refine jz h λe2 hb h=>jz h λp hp h=>⟨e2,hb,HB (show B e2 η=some (p.1,p.2.1,p.2.2) from hp) ?_⟩
   clear hp
   obtain ⟨f,e3,UO⟩:=p
   cases f with
  |ret v=>exact s8 Q (ai h) q
  |_=>exact ih h q
theorem aiv(H:SX k f){B:Sl->AH->Option (Fl×Sl×AH)}{WB:Sl->AH->(Fl->Sl->AH->Prop)->Prop}(HB:∀{e η fl e' jt},B e η=some (fl,e',jt)->∀{Q},Q fl e' jt->WB e η Q){t:X}{fl:Fl}:∀{e:Sl} {η:AH} {Q:Fl->Sl->AH->Prop},KY f t B n e η=some (fl,e',jt)->Q fl e' jt->qL (λe η Q=>W k t e η Q) WB n e η Q:=by
 induction n with
|zero=>exact λh J=>xn h
|succ n ih=>
  refine λ{e η Q} h q=>jz h λp h1 h=>jz h λc hc h=>H h1 ⟨c,hc,mY h (λz h=>⟨λJ=>?_,λy=>xf (y.symm.trans z)⟩) λz h=>⟨λy=>xf (z.symm.trans y),λJ=>s8 Q (ai h) q⟩⟩
  refine jz h λp2 hp h=>HB (show B e p.2=some (p2.1,p2.2.1,p2.2.2) from hp) ?_
  clear hp
  obtain ⟨f,e3,UO⟩:=p2
  cases f with
 |ret v=>exact s8 Q (ai h) q
 |_=>exact ih h q
theorem Va(H:SX k f)(HB:SS k w b)(HB0:SS k 0 b0){x:St}{fl:Fl}(h:FN f b b0 w x e η=some (fl,e',jt)){Q:Fl->Sl->AH->Prop}(q:Q fl e' jt):W1 k x w e η Q:=by
 cases x with
|expr x=>exact jz h λp h1 h=>xc h λc h=>H h1 ⟨EL c,s8 Q (ai h) q⟩
|asg t x=>exact jz h λp h1 h=>jH h λp2 h2 h=>H h1 (U' H h2 (s8 Q h q))
|vf ts x=>exact jz h λp h1 h=>jz h λl hl h=>xc h λc h=>jH h λp2 h2 h=>H h1 ⟨l,Ch hl,aP c,ait H h2 (s8 Q h q)⟩
|aug o a x=>exact jz h λp h1 h=>jz h λu hu h=>jz h λi hi h=>jz h λp2 h2 h=>jz h λj hj h=>jH h λuA h3 h=>H h1 ⟨i,hu.trans (congrArg some (v9 hi)),H h2 ⟨j,v9 hj,uA,h3,s8 Q h q⟩⟩
|ite t a c=>exact jz h λp h1 h=>jz h λt ht h=>H h1 ⟨t,ht,mY h (λz h=>⟨λJ=>HB h q,λy=>xf (y.symm.trans z)⟩) λz h=>⟨λy=>xf (z.symm.trans y),λJ=>HB h q⟩⟩
|«for» rv tg it bd=>exact jz h λp h1 h=>jz h λS hS h=>H h1 ⟨S,hS,aiu HB h q⟩
|ret x=>exact jH h λp h1 h=>H h1 (s8 Q h q)
|ri t bd=>exact aiv H HB0 h q
|_=>exact xn h
theorem FP(H:SX k f)(n:Nat):∀{w},SS k w (rS f n w):=by
 induction n with
|zero=>exact λh=>xn h
|succ n ih=>
  intro w x e η fl e' jt h Q q
  cases x with
 |nil=>exact s8 Q (ai h) q
 |cons x r=>
   refine jz h λp h1 h=>Va H ih ih (show FN f (rS f n w) (rS f n 0) w x e η=some (p.1,p.2.1,p.2.2) from h1) ?_
   clear h1
   obtain ⟨g,e2,uA⟩:=p
   cases g with
  |next=>exact ih h q
  |cont=>exact s8 Q (ai h) q
  |ret v=>exact s8 Q (ai h) q
theorem Vb{fl:Fl}(h:KZ fl=some v){Q:PV->AH->Prop}(q:Q v η):nK Q fl e η:=by
 cases fl with
|cont=>exact xn h
|next=>exact (show Q .none η from (ai h:PV.none=v)▸q)
|ret u=>exact (show Q u η from (ai h:u=v)▸q)
theorem Vc{T:List (Addr×xQ)}(HT:∀{a c},jL T a=some c->codeOf tab a c.m=some (c.nn,c.ss))(n:Nat):∀{k},SC k (rC T n k):=by
 induction n with
|zero=>exact λh=>xn h
|succ n ih=>
  intro k f vs η v jt h Q q
  refine jz h λy hy h=>?_
  rw [KJ hy]
  clear hy
  have K:∀{m:Nat},bA (m+8+1) k=true->k - (m+8+1)+m+8+1=k:=λc=>(bH _ _ 8▸cS (b5 c) :)
  cases y with
 |ref a=>
   refine xo (jL tab.pV a) (λe=>?_) λfi e=>?_
   all_goals
    dsimp only at h
    rw [e] at h
   ·exact jz h λi hi h=>jz h λc hc h=>xc h λc1 h=>jz h λas hb h=>jz h λp hp h=>jz h λu hu h=>xc h λc2 h=>K c1▸jw.cls 8 e hi (HT hc) hb (FP (Lb ih _) _ (show rS _ _ _ _ _ _=some (p.1,p.2.1,p.2.2) from hp) (Vb hu ⟨EL c2,nS Q (ai h) q⟩))
   ·exact jz h λc hc h=>xc h λc1 h=>xb c1 λc1 c2=>jz h λas hb h=>jz h λp hp h=>jH h λu hu h=>K c1▸jw.fn 8 (HT hc) ((cM _).mp c2) hb (FP (Lb ih _) _ (show rS _ _ _ _ _ _=some (p.1,p.2.1,p.2.2) from hp) (Vb hu (nS Q h q)))
 |_=>exact xc h λc h=>jw.le (k:=1) (jw.blt (k:=0) (nofun) h q) (b5 c)
def rN(f:Rx):Nat->jF->Sl->AH->Option (Sl×AH)
|0,_,e,η=>some (e,η)
|n+1,b,e,η=>match b with
 |.nil=>none
 |.cons x r=>(FN f (rS f 25 0) (rS f 25 0) 0 x e η).bind λp=>match p.1 with
  |.next=>rN f n r p.2.1 p.2.2
  |_=>none
noncomputable def kW:Nat->jF->jF
|n+1,.cons _ t=>kW n t
|_,s=>s
theorem Lc(H:SX k f){Q:Fl->Sl->AH->Prop}:∀{b:jF} {e:Sl} {η:AH},rN f n b e η=some (e',jt)->WS k (kW n b) 0 e' jt Q->WS k b 0 e η Q:=by
 induction n with
|zero=>exact λ{b e η} h q=>nS (λe η=>WS k b 0 e η Q) (ai h) (by cases b<;>exact q)
|succ n ih=>exact λ{b e η} h q=>match b,h,q with
 |.nil,h,_=>xn h
 |.cons x r,h,q=>jz h λp h1 h=>Va H (FP H 25) (FP H 25) (show _=some (p.1,p.2.1,p.2.2) from h1) (by
   cases hf:p.1 with
  |next=>rw [hf] at h;exact ih h q
  |cont=>rw [hf] at h;exact xn h
  |ret v=>rw [hf] at h;exact xn h)
end
end
theorem vg{α:Type}:∀{l:List (Addr×α)} {x:Addr} {k:α},jL l x=some k->(x,k)∈l
|(y,v)::r,x,k,h=>by
  have h':cond (aj y x) (some v) (jL r x)=some k:=h
  cases q:aj y x with
 |true=>
   rw [q] at h'
   cases h'
   have:=aP q
   subst this
   exact bL ..
 |false=>
   rw [q] at h'
   exact bu _ (vg h')
def Vd(P:Params)(c:Addr):Bool:=hasDictIn (Kf P) c && (findIn (Kf P) (.ref c) "__setattr__" == some (some (.builtin "object.__setattr__"))) && plainOver (Kf P) c
def Ve(P:Params)(c:Addr)(a:Str):Bool:=plainGet (Kf P) c a && (findIn (Kf P) (.ref c) a == some none)
theorem aiw(P:Params):(tab.fields.all λp=>Vd P p.1)=true:=by kernel_rfl
def lE(P:Params)(a:Nat):Obj:=((objs P)[a]?).getD ⟨.none,none,.plain,#[]⟩
def fdO(o:Obj):FuncData:=match o.data with
|.func f=>f
|_=>fD (.Pass default) "" .none .none .none .none none .none .none 0 0
def lR(P:Params)(a:Nat):FuncData:=fdO (lE P a)
noncomputable def refOf:Value->Nat
|.ref a=>a
|_=>0
noncomputable def tokOf:Value->Nat
|.str _ t=>t
|_=>0
noncomputable def Ld(o:Obj):Array Value:=match o.data with
|.fields vs=>vs
|_=>#[]
noncomputable def As(o:Obj):List Value:=match o.data with
|.seq xs _=>xs.toList
|_=>[]
noncomputable def aix(o:Obj):Nat:=match o.data with
|.seq _ n=>n
|_=>0
def FQ(P:Params)(v:Value):List Value:=match v with
|.ref d=>As (lE P d)
|_=>[]
def CN(P:Params)(a:Nat):List Value:=FQ P (lR P a).defaults
theorem aiy(P:Params)(v:Value)(e:v=.ref (refOf v)):FQ P v=As (lE P (refOf v)):=by
 cases v<;>first|(cases e;done)|skip
 exact eA _
theorem aiz(P:Params)(v:Value)(e:v=.none):FQ P v=[]:=by
 subst e;exact eA _
def FT(v:Value)(p:PV):Bool:=match p with
|.none=>match v with
 |.none=>true
 |_=>false
|.bool b=>match v with
 |.bool a=>a == b
 |_=>false
|.int b=>match v with
 |.int a _=>decide (a=b)
 |_=>false
|.str b=>match v with
 |.str a _=>sq a b
 |_=>false
|_=>false
def CP:List Value->List PV->Bool
|[],[]=>true
|a::r,b::q=>FT a b && CP r q
|_,_=>false
theorem Vf{X:Em}{v:Value}{p:PV}(h:FT v p=true):VR X v p:=by
 cases p with
|none=>cases v with
 |none=>exact .none
 |_=>exact xf h
|bool b=>cases v with
 |bool a=>rw [beq_iff_eq.mp (show (a == b)=true from h)];exact .bool _
 |_=>exact xf h
|int b=>cases v with
 |int a t=>rw [of_decide_eq_true (show decide (a=b)=true from h)];exact .int _ _
 |_=>exact xf h
|str b=>cases v with
 |str a t=>rw [kj.mp (show sq a b=true from h)];exact .str _ _
 |_=>exact xf h
|_=>exact xf h
theorem Lf{X:Em}:∀{v:List Value} {p:List PV},CP v p=true->jI X v p
|[],[],_=>.nil
|a::r,b::q,h=>by
  have h':(FT a b && CP r q)=true:=h
  rw [aN] at h'
  exact .cons (Vf h'.1) (Lf h'.2)
|[],_::_,h=>by cases h
|_::_,[],h=>by cases h
def Vg(ps:List Str)(names:List (Str×NameKind)):Bool:=ps.all λx=>match jv names x with
|some .local=>true
|some .cell=>true
|_=>false
theorem aiA{ps:List Str}(h:Vg ps names=true):∀x∈ps,names.lookup x=some .local\/names.lookup x=some .cell:=λx hx=>by
 have:=aI.mp h x hx
 rw [<-xB]
 split at this
 ·rename_i e;exact .inl e
 ·rename_i e;exact .inr e
 ·cases this
def Au:List Str->Bool
|[]=>true
|x::r=>!(r.any (sq x)) && Au r
theorem Lg:∀{l:List Str},Au l=true->l.Nodup
|[],_=>dJ
|x::r,h=>by
  have h':(!(r.any (sq x)) && Au r)=true:=h
  rw [aN,cM] at h'
  rw [bw]
  refine ⟨λhx=>?_,Lg h'.2⟩
  have:=gj.mp h'.1 x hx
  exact this (kj.mpr rfl)
structure j8(P:Params)(a:Addr)(fi:rR):Prop where
 ob:(objs P)[a]?=some (qE (lR P a))
 pt:((lR P a).body,(lR P a).scope,(lR P a).params.args.map (·.arg),(lR P a).params.posonlyargs,(lR P a).params.kwonlyargs,(lR P a).params.vararg,(lR P a).params.kwarg,Au ((lR P a).params.args.map (·.arg)),(lR P a).closure,(lR P a).globals,(lR P a).builtins,(lR P a).scope.isCoroutine,(lR P a).scope.isGenerator,(lR P a).scope.kind,Q6 (lR P a).scope,Vg (rV fi.st) (lR P a).scope.names,bA (CN P a).length ((lR P a).params.args.map (·.arg)).length,CP (CN P a) fi.dflt) =
  (.stmts (bodyOf fi.st),uc fi.st,rV fi.st,[],[],none,none,true,[],mainGlobals,builtinsNs,false,false,.function,true,true,true,true)
 cd:((lR P a).code,(objs P)[refOf (lR P a).code]?,(lE P (refOf (lR P a).code)).data,(Ld (lE P (refOf (lR P a).code)))[1]?)=(.ref (refOf (lR P a).code),some (lE P (refOf (lR P a).code)),.fields (Ld (lE P (refOf (lR P a).code))),some (.str (lR P a).qualname (tokOf ((Ld (lE P (refOf (lR P a).code))).getD 1 .none))))
 df:((lR P a).defaults=.none)\/((lR P a).defaults,(objs P)[refOf (lR P a).defaults]?,(lE P (refOf (lR P a).defaults)).data)=(.ref (refOf (lR P a).defaults),some (lE P (refOf (lR P a).defaults)),.seq (As (lE P (refOf (lR P a).defaults))).toArray (aix (lE P (refOf (lR P a).defaults))))
theorem oO{α β:Type}{a c:α}{b d:β}{G:Prop}(h:(a,b)=(c,d))(f:a=c->b=d->G):G:=f (cL h).1 (cL h).2
theorem j8.at{w:World}{a:Addr}{fi:rR}(K:j8 w.params a fi):∃o fd dv,FnAt w a fi o fd dv:=by
 have Vh:CN w.params a=FQ w.params (lR w.params a).defaults:=by unfold CN;exact eA _
 refine oO K.pt λbo pt=>oO pt λsc pt=>oO pt λpr pt=>oO pt λpo pt=>oO pt λko pt=>oO pt λva pt=>oO pt λkw pt=>oO pt λnd pt=>oO pt λcl pt=>oO pt λgl pt=>oO pt λbi pt=>oO pt λco pt=>oO pt λge pt=>oO pt λkd pt=>oO pt λok pt=>oO pt λbn pt=>oO pt λdl dr=>oO K.cd λc1 cd=>oO cd λc2 cd=>oO cd λc3 c4=>?_
 exact ⟨qE (lR w.params a),lR w.params a,CN w.params a,K.ob,eA _,bo,sc,pr,⟨po,ko,va,kw,Lg nd⟩,cl,gl,bi,co,ge,kd,ok,aiA bn,⟨_,_,_,_,c1,c2,c3,c4⟩,K.df.elim (λe=>.inl ⟨e,Vh.trans (aiz _ _ e)⟩) λz=>oO z λe1 z=>oO z λe2 e3=>.inr ⟨_,_,_,e1,e2,by rw [Vh,aiy _ _ e1];exact e3⟩,b5 dl,λX η h J=>Lf dr⟩
theorem aiB(P:Params):j8 P 35 ⟨(mA 4 0),[]⟩:=⟨by kernel_rfl,by kernel_rfl,by kernel_rfl,.inl (by kernel_rfl)⟩
theorem aiC(P:Params):j8 P 216 ⟨(mA 12 0),[.none,(.bool false),.none,.none]⟩:=⟨by kernel_rfl,by kernel_rfl,by kernel_rfl,.inr (by kernel_rfl)⟩
theorem aiD(P:Params):j8 P 223 ⟨(mA 12 1),[]⟩:=⟨by kernel_rfl,by kernel_rfl,by kernel_rfl,.inl (by kernel_rfl)⟩
theorem aiE(P:Params):j8 P 243 ⟨(mA 13 0),[.none,.none,(.str (bh #[112,117,98,108,105,99]))]⟩:=⟨by kernel_rfl,by kernel_rfl,by kernel_rfl,.inr (by kernel_rfl)⟩
theorem aiF(P:Params):j8 P 251 ⟨(mA 13 1),[.none]⟩:=⟨by kernel_rfl,by kernel_rfl,by kernel_rfl,.inr (by kernel_rfl)⟩
theorem aiG(P:Params):j8 P 265 ⟨(dA 14),[]⟩:=⟨by kernel_rfl,by kernel_rfl,by kernel_rfl,.inl (by kernel_rfl)⟩
theorem aiH(P:Params):j8 P 272 ⟨(dA 15),[]⟩:=⟨by kernel_rfl,by kernel_rfl,by kernel_rfl,.inl (by kernel_rfl)⟩
theorem aiI(P:Params):j8 P 299 ⟨(dA 20),[]⟩:=⟨by kernel_rfl,by kernel_rfl,by kernel_rfl,.inl (by kernel_rfl)⟩
theorem aiJ(P:Params):j8 P 304 ⟨(dA 21),[]⟩:=⟨by kernel_rfl,by kernel_rfl,by kernel_rfl,.inl (by kernel_rfl)⟩
theorem aiK(P:Params):j8 P 309 ⟨(dA 22),[]⟩:=⟨by kernel_rfl,by kernel_rfl,by kernel_rfl,.inl (by kernel_rfl)⟩
theorem aiL(P:Params):j8 P 314 ⟨(dA 23),[]⟩:=⟨by kernel_rfl,by kernel_rfl,by kernel_rfl,.inl (by kernel_rfl)⟩
theorem aiM(P:Params):j8 P 321 ⟨(dA 24),[]⟩:=⟨by kernel_rfl,by kernel_rfl,by kernel_rfl,.inl (by kernel_rfl)⟩
theorem aiN(P:Params):j8 P 342 ⟨(dA 28),[]⟩:=⟨by kernel_rfl,by kernel_rfl,by kernel_rfl,.inl (by kernel_rfl)⟩
theorem aiO(P:Params):j8 P 349 ⟨(dA 29),[]⟩:=⟨by kernel_rfl,by kernel_rfl,by kernel_rfl,.inl (by kernel_rfl)⟩
theorem aiP(P:Params):j8 P 356 ⟨(dA 30),[]⟩:=⟨by kernel_rfl,by kernel_rfl,by kernel_rfl,.inl (by kernel_rfl)⟩
theorem aiQ(P:Params):j8 P 363 ⟨(dA 31),[]⟩:=⟨by kernel_rfl,by kernel_rfl,by kernel_rfl,.inl (by kernel_rfl)⟩
theorem aiR(P:Params):j8 P 370 ⟨(dA 32),[]⟩:=⟨by kernel_rfl,by kernel_rfl,by kernel_rfl,.inl (by kernel_rfl)⟩
theorem aiS(P:Params):j8 P 377 ⟨(dA 33),[]⟩:=⟨by kernel_rfl,by kernel_rfl,by kernel_rfl,.inl (by kernel_rfl)⟩
theorem aiT(P:Params):j8 P 384 ⟨(dA 34),[]⟩:=⟨by kernel_rfl,by kernel_rfl,by kernel_rfl,.inl (by kernel_rfl)⟩
theorem aiU(P:Params):j8 P 391 ⟨(dA 35),[]⟩:=⟨by kernel_rfl,by kernel_rfl,by kernel_rfl,.inl (by kernel_rfl)⟩
theorem aiV(P:Params):j8 P 398 ⟨(dA 36),[]⟩:=⟨by kernel_rfl,by kernel_rfl,by kernel_rfl,.inl (by kernel_rfl)⟩
theorem aiW(P:Params):j8 P 405 ⟨(dA 37),[]⟩:=⟨by kernel_rfl,by kernel_rfl,by kernel_rfl,.inl (by kernel_rfl)⟩
theorem aiX(P:Params):j8 P 412 ⟨(dA 38),[]⟩:=⟨by kernel_rfl,by kernel_rfl,by kernel_rfl,.inl (by kernel_rfl)⟩
theorem aiY(P:Params):j8 P 419 ⟨(dA 39),[]⟩:=⟨by kernel_rfl,by kernel_rfl,by kernel_rfl,.inl (by kernel_rfl)⟩
theorem aiZ(P:Params):j8 P 426 ⟨(dA 40),[]⟩:=⟨by kernel_rfl,by kernel_rfl,by kernel_rfl,.inl (by kernel_rfl)⟩
theorem ai0(P:Params):j8 P 441 ⟨(mA 42 0),[(.bool false)]⟩:=⟨by kernel_rfl,by kernel_rfl,by kernel_rfl,.inr (by kernel_rfl)⟩
theorem ai1(P:Params):j8 P 469 ⟨(mA 43 0),[]⟩:=⟨by kernel_rfl,by kernel_rfl,by kernel_rfl,.inl (by kernel_rfl)⟩
theorem ai2(P:Params):j8 P 505 ⟨(mA 45 0),[.none,(.str (bh #[99,97,108,108])),.none,.none]⟩:=⟨by kernel_rfl,by kernel_rfl,by kernel_rfl,.inr (by kernel_rfl)⟩
theorem ai3(P:Params):j8 P 526 ⟨(dA 46),[]⟩:=⟨by kernel_rfl,by kernel_rfl,by kernel_rfl,.inl (by kernel_rfl)⟩
theorem ai4(P:Params):j8 P 609 ⟨(mA 53 0),[]⟩:=⟨by kernel_rfl,by kernel_rfl,by kernel_rfl,.inl (by kernel_rfl)⟩
theorem ai5(P:Params):j8 P 652 ⟨(mA 54 0),[.none]⟩:=⟨by kernel_rfl,by kernel_rfl,by kernel_rfl,.inr (by kernel_rfl)⟩
theorem ai6(P:Params):j8 P 673 ⟨(mA 55 0),[]⟩:=⟨by kernel_rfl,by kernel_rfl,by kernel_rfl,.inl (by kernel_rfl)⟩
theorem ai7(P:Params):j8 P 765 ⟨(dA 57),[]⟩:=⟨by kernel_rfl,by kernel_rfl,by kernel_rfl,.inl (by kernel_rfl)⟩
theorem ai8(P:Params):j8 P 793 ⟨(mA 63 0),[.none,.none,(.int (20000))]⟩:=⟨by kernel_rfl,by kernel_rfl,by kernel_rfl,.inr (by kernel_rfl)⟩
theorem ai9(P:Params):j8 P 814 ⟨(mA 63 3),[]⟩:=⟨by kernel_rfl,by kernel_rfl,by kernel_rfl,.inl (by kernel_rfl)⟩
theorem aja(P:Params):j8 P 835 ⟨(mA 63 6),[]⟩:=⟨by kernel_rfl,by kernel_rfl,by kernel_rfl,.inl (by kernel_rfl)⟩
theorem ajb(P:Params):j8 P 840 ⟨(mA 63 7),[]⟩:=⟨by kernel_rfl,by kernel_rfl,by kernel_rfl,.inl (by kernel_rfl)⟩
theorem ajc(P:Params):j8 P 847 ⟨(mA 63 8),[]⟩:=⟨by kernel_rfl,by kernel_rfl,by kernel_rfl,.inl (by kernel_rfl)⟩
theorem ajd(P:Params):j8 P 855 ⟨(mA 63 9),[.none,.none,.none]⟩:=⟨by kernel_rfl,by kernel_rfl,by kernel_rfl,.inr (by kernel_rfl)⟩
theorem aje(P:Params):j8 P 862 ⟨(mA 63 10),[]⟩:=⟨by kernel_rfl,by kernel_rfl,by kernel_rfl,.inl (by kernel_rfl)⟩
theorem ajf(P:Params):j8 P 869 ⟨(mA 63 11),[]⟩:=⟨by kernel_rfl,by kernel_rfl,by kernel_rfl,.inl (by kernel_rfl)⟩
theorem ajg(P:Params):j8 P 876 ⟨(mA 63 12),[]⟩:=⟨by kernel_rfl,by kernel_rfl,by kernel_rfl,.inl (by kernel_rfl)⟩
theorem ajh(P:Params):j8 P 890 ⟨(mA 63 14),[]⟩:=⟨by kernel_rfl,by kernel_rfl,by kernel_rfl,.inl (by kernel_rfl)⟩
theorem aji(P:Params):j8 P 1065 ⟨(dA 65),[]⟩:=⟨by kernel_rfl,by kernel_rfl,by kernel_rfl,.inl (by kernel_rfl)⟩
theorem ajj(P:Params):j8 P 1072 ⟨(dA 66),[]⟩:=⟨by kernel_rfl,by kernel_rfl,by kernel_rfl,.inl (by kernel_rfl)⟩
theorem ajk(P:Params):j8 P 1079 ⟨(dA 67),[]⟩:=⟨by kernel_rfl,by kernel_rfl,by kernel_rfl,.inl (by kernel_rfl)⟩
theorem ajl(P:Params):j8 P 1086 ⟨(dA 68),[]⟩:=⟨by kernel_rfl,by kernel_rfl,by kernel_rfl,.inl (by kernel_rfl)⟩
theorem ajm(P:Params):j8 P 1093 ⟨(dA 69),[]⟩:=⟨by kernel_rfl,by kernel_rfl,by kernel_rfl,.inl (by kernel_rfl)⟩
theorem ajn(P:Params):j8 P 1100 ⟨(dA 70),[]⟩:=⟨by kernel_rfl,by kernel_rfl,by kernel_rfl,.inl (by kernel_rfl)⟩
theorem ajo(P:Params):j8 P 1107 ⟨(dA 71),[]⟩:=⟨by kernel_rfl,by kernel_rfl,by kernel_rfl,.inl (by kernel_rfl)⟩
theorem ajp(P:Params):j8 P 1114 ⟨(dA 72),[]⟩:=⟨by kernel_rfl,by kernel_rfl,by kernel_rfl,.inl (by kernel_rfl)⟩
theorem ajq(P:Params):j8 P 1121 ⟨(dA 73),[]⟩:=⟨by kernel_rfl,by kernel_rfl,by kernel_rfl,.inl (by kernel_rfl)⟩
theorem ajr(P:Params):j8 P 1126 ⟨(dA 74),[]⟩:=⟨by kernel_rfl,by kernel_rfl,by kernel_rfl,.inl (by kernel_rfl)⟩
theorem ajs(P:Params):j8 P 1133 ⟨(dA 75),[]⟩:=⟨by kernel_rfl,by kernel_rfl,by kernel_rfl,.inl (by kernel_rfl)⟩
theorem ajt(P:Params):j8 P 1140 ⟨(dA 76),[]⟩:=⟨by kernel_rfl,by kernel_rfl,by kernel_rfl,.inl (by kernel_rfl)⟩
theorem aju(P:Params):j8 P 1145 ⟨(dA 77),[]⟩:=⟨by kernel_rfl,by kernel_rfl,by kernel_rfl,.inl (by kernel_rfl)⟩
theorem ajv(P:Params):j8 P 1152 ⟨(dA 78),[]⟩:=⟨by kernel_rfl,by kernel_rfl,by kernel_rfl,.inl (by kernel_rfl)⟩
theorem ajw(P:Params):j8 P 1157 ⟨(dA 79),[]⟩:=⟨by kernel_rfl,by kernel_rfl,by kernel_rfl,.inl (by kernel_rfl)⟩
theorem ajx(P:Params):j8 P 1162 ⟨(dA 80),[]⟩:=⟨by kernel_rfl,by kernel_rfl,by kernel_rfl,.inl (by kernel_rfl)⟩
theorem ajy(P:Params):j8 P 1167 ⟨(dA 81),[]⟩:=⟨by kernel_rfl,by kernel_rfl,by kernel_rfl,.inl (by kernel_rfl)⟩
theorem ajz(P:Params):j8 P 1172 ⟨(dA 82),[]⟩:=⟨by kernel_rfl,by kernel_rfl,by kernel_rfl,.inl (by kernel_rfl)⟩
theorem kB{P:Params}{a:Addr}{f:rR}{T:List (Addr×rR)}(h:j8 P a f)(ih:∀{x g},jL T x=some g->j8 P x g){x:Addr}{g:rR}(e:jL ((a,f)::T) x=some g):j8 P x g:=
 mY (show cond (aj a x) (some f) (jL T x)=some g from e) (λz e=>aP z▸ai e▸h) λJ e=>ih e
theorem ajA{P:Params}{x:Addr}{g:rR}(e:jL ([]:List (Addr×rR)) x=some g):j8 P x g:=xn e
theorem ajB(P:Params){x:Addr}{g:rR}(e:jL tab.pV x=some g):j8 P x g:=
 kB (aiB P) (kB (aiC P) (kB (aiD P) (kB (aiE P) (kB (aiF P) (kB (aiG P) (kB (aiH P) (kB (aiI P) (kB (aiJ P) (kB (aiK P) (kB (aiL P) (kB (aiM P) (kB (aiN P) (kB (aiO P) (kB (aiP P) (kB (aiQ P) (kB (aiR P) (kB (aiS P) (kB (aiT P) (kB (aiU P) (kB (aiV P) (kB (aiW P) (kB (aiX P) (kB (aiY P) (kB (aiZ P) (kB (ai0 P) (kB (ai1 P) (kB (ai2 P) (kB (ai3 P) (kB (ai4 P) (kB (ai5 P) (kB (ai6 P) (kB (ai7 P) (kB (ai8 P) (kB (ai9 P) (kB (aja P) (kB (ajb P) (kB (ajc P) (kB (ajd P) (kB (aje P) (kB (ajf P) (kB (ajg P) (kB (ajh P) (kB (aji P) (kB (ajj P) (kB (ajk P) (kB (ajl P) (kB (ajm P) (kB (ajn P) (kB (ajo P) (kB (ajp P) (kB (ajq P) (kB (ajr P) (kB (ajs P) (kB (ajt P) (kB (aju P) (kB (ajv P) (kB (ajw P) (kB (ajx P) (kB (ajy P) (kB (ajz P) ajA)))))))))))))))))))))))))))))))))))))))))))))))))))))))))))) e
theorem ajC(P:Params):(tab.fields.all λp=>p.2.all λa=>Ve P p.1 a)=true:=by kernel_rfl
def Vi(P:Params)(c:Addr)(name:Str)(f:Addr):Bool:=
 (findIn (Kf P) (.ref c) "__getattribute__" == some (some (.builtin "object.__getattribute__"))) && (findIn (Kf P) (.ref c) "__getattr__" == some none) && (findIn (Kf P) (.ref c) name == some (some (.ref f))) && (typeIn (Kf P) (.ref f) == some (.type "function")) &&
 (specialIn (Kf P) (.ref c) "__getattribute__" == some (some (.builtin "type.__getattribute__"))) && readsIn (Kf P) c (.type "type") && keepIn (Kf P) (.ref f) && aY f 1173
noncomputable def Vj(x:Option CFound)(f:Addr):Bool:=match x with
|some (.val (.ref g))=>aj g f
|_=>false
theorem ajD{x:Option CFound}{f:Addr}(h:Vj x f=true):x=some (.val (.ref f)):=by
 cases x with
|none=>exact xf h
|some y=>cases y with
 |val v=>cases v with
  |ref g=>exact congrArg (λa=>some (CFound.val (.ref a))) (aP h)
  |_=>exact xf h
 |_=>exact xf h
def Vk(P:Params)(c:Addr)(name:Str)(f:Addr):Bool:=Vj (findCls (Kf P) (.ref c) (.type "type") name) f
theorem ajE(P:Params):(tab.meths.all λp=>p.2.all λq=>Vi P p.1 q.1 q.2 && Vk P p.1 q.1 q.2)=true:=by kernel_rfl
theorem ajF(P:Params):(tab.pV.all λp=>keepIn (Kf P) (.ref p.1))=true:=by kernel_rfl
theorem ajG(P:Params):(tab.oU.all λp=>keepIn (Kf P) (.ref p.1))=true:=by kernel_rfl
def Vl(P:Params)(a fI:Addr):Bool:=makesIn (Kf P) a && (findIn (Kf P) (.ref a) "__init__" == some (some (.ref fI))) && (typeIn (Kf P) (.ref fI) == some (.type "function"))
theorem ajH(P:Params):(tab.oU.all λp=>Vl P p.1 p.2)=true:=by kernel_rfl
def Vm(P:Params)(c:Addr):Bool:=plainGet (Kf P) c "__class__" && hasDictIn (Kf P) c && (findIn (Kf P) (.ref c) "__class__" == some (some (.builtin "object.__class__"))) &&
 (specialIn (Kf P) (.builtin "object.__class__") "__get__" == some (some (.builtin "getset_descriptor.__get__"))) && (takesIn (Kf P) (.builtin "object.__class__") == some true) && (mroIn (Kf P) c (.type "object") == some true) &&
 (kitOne (Kf P) (.ref c) (.type "bool") == some false) && (kitOne (Kf P) (.ref c) (.type "int") == some false) && (kitOne (Kf P) (.ref c) (.type "str") == some false) && ((clsIn (Kf P) c).isSome && typeIn (Kf P) (.ref c) == some (.type "type"))
theorem ajI(P:Params):(tab.bases.all λp=>Vm P p.1)=true:=by kernel_rfl
theorem ajJ(P:Params):(tab.bases.all λp=>tab.bases.all λq=>kitOne (Kf P) (.ref p.1) (.ref q.1) == some (p.2.contains q.1))=true:=by kernel_rfl
noncomputable def oA(o:Obj):Array DictEntry:=match o.data with
|.dict es _=>es
|_=>#[]
noncomputable def Av(o:Obj):Nat:=match o.data with
|.dict _ n=>n
|_=>0
noncomputable def Vn:Value->Value->Bool
|.ref a,.ref b=>aj a b && aY a 1173
|.type a,.type b=>a == b
|.builtin a,.builtin b=>a == b
|_,_=>false
noncomputable def Vo(d:Data):Bool:=match d with
|.seq _ _=>true
|_=>false
def Vp(o:Obj):Bool:=(o.cls == .type "tuple") && o.dict.isNone && aj o.slots.size 0 && Vo o.data
def y9(P:Params)(v:Value)(p:PV):Bool:=match p with
|.st u=>Vn v u
|.tup l=>match v with
 |.ref a=>Vp (lE P a) && CP (As (lE P a)) l && ((objs P)[a]?).isSome
 |_=>false
|p=>FT v p
noncomputable def za(es:Array DictEntry):Bool:=es.toList.all λe=>match e.key with
|.str _ _=>true
|_=>false
theorem Lh(P:Params):(objs P)[3]?=some (lE P 3)/\(lE P 3).data=.dict (oA (lE P 3)) (Av (lE P 3))/\za (oA (lE P 3))=true:=⟨by kernel_rfl,by kernel_rfl,by kernel_rfl⟩
theorem Li(P:Params):(objs P)[0]?=some (lE P 0)/\(lE P 0).data=.dict (oA (lE P 0)) (Av (lE P 0))/\za (oA (lE P 0))=true:=⟨by kernel_rfl,by kernel_rfl,by kernel_rfl⟩
theorem FU(P:Params):(objs P)[2]?=some (lE P 2)/\(lE P 2).data=.dict (oA (lE P 2)) (Av (lE P 2))/\za (oA (lE P 2))=true/\nsFind (oA (lE P 2)) "sys.recursionlimit"=none:=⟨by kernel_rfl,by kernel_rfl,by kernel_rfl,by kernel_rfl⟩
def Lj(P:Params)(a b:Option Value)(p:PV):Bool:=match a with
|some v=>y9 P v p
|none=>match b with
 |some v=>y9 P v p
 |none=>false
theorem ajK(P:Params):(tab.glob.all λq=>Lj P (nsFind (oA (lE P 3)) q.1) (nsFind (oA (lE P 0)) q.1) q.2)=true:=by kernel_rfl
theorem ajL(P:Params):EP P tab:=λc ns h a ha=>by
 have m:=vg h
 have h1:=aI.mp (aiw P) _ m
 have h2:=aI.mp (ajC P) _ m
 refine jZ (dg.mp ha) λx hx e=>?_
 have:=kj.mp e
 subst this
 have h3:=aI.mp h2 _ hx
 unfold Vd at h1
 unfold Ve at h3
 simp only [aN,beq_iff_eq] at h1 h3
 exact ⟨h3.1,h1.1.1,h3.2,h1.1.2,h1.2⟩
theorem ajM(P:Params){c:Addr}{ms:List (Str×Addr)}(h:jL tab.meths c=some ms){name:Str}{f:Addr}(hf:jv ms name=some f):JZ P c name f:=by
 have h1:=aI.mp (aI.mp (ajE P) _ (vg h)) _ (uf hf)
 unfold Vi Vk at h1
 simp only [aN,beq_iff_eq] at h1
 refine jP (h1) λlX k=>?_
 obtain ⟨⟨⟨⟨⟨⟨⟨a,b⟩,c'⟩,d⟩,e⟩,f'⟩,g⟩,i⟩:=lX
 exact ⟨a,b,c',d,e,f',ajD k,g,uU i⟩
theorem ajN(P:Params){a fI:Addr}(h:jL tab.oU a=some fI):TF P a fI:=by
 have h1:=aI.mp (ajH P) _ (vg h)
 unfold Vl at h1
 simp only [aN,beq_iff_eq] at h1
 exact ⟨h1.1.1,h1.1.2,h1.2⟩
theorem ajO(P:Params):Fq P tab:=⟨λc bs h=>by
  have h1:=aI.mp (ajI P) _ (vg h)
  unfold Vm at h1
  simp only [aN,beq_iff_eq] at h1
  obtain ⟨⟨⟨⟨⟨⟨⟨⟨⟨a,b⟩,c'⟩,d⟩,e⟩,f⟩,g⟩,i⟩,j⟩,k⟩:=h1
  exact ⟨a,b,c',d,e,f,g,i,j,by simp [k]⟩,λc bs C Cv h h'=>by
  have h1:=aI.mp (aI.mp (ajJ P) _ (vg h)) _ (vg h')
  exact beq_iff_eq.mp h1⟩
theorem ajP{a b:Value}(h:Vn a b=true):a=b/\Ew a=true:=by
 cases a with
|ref a=>cases b with
 |ref b=>exact xb (show (aj a b && aY a 1173)=true from h) λh1 h2=>⟨congrArg _ (aP h1),decide_eq_true (uU h2)⟩
 |_=>exact xf h
|«type» a=>cases b with
 |«type» b=>exact ⟨congrArg _ (beq_iff_eq.mp (show (a == b)=true from h)),rfl⟩
 |_=>exact xf h
|builtin a=>cases b with
 |builtin b=>exact ⟨congrArg _ (beq_iff_eq.mp (show (a == b)=true from h)),rfl⟩
 |_=>exact xf h
|_=>exact xf h
theorem ajQ{d:Data}(h:Vo d=true):∃xs n,d=.seq xs n:=by
 cases d with
|seq xs n=>exact ⟨xs,n,rfl⟩
|_=>exact xf h
theorem ajR{o:Obj}(h:Vp o=true):∃xs n,o=⟨.type "tuple",none,.seq xs n,#[]⟩/\As o=xs.toList:=
 xb h λh h4=>xb h λh h3=>xb h λh1 h2=>(ajQ h4).elim λxs z=>z.elim λn e=>⟨xs,n,by
  have e1:=beq_iff_eq.mp h1
  have e2:=er.mp h2
  have e3:=Array.eq_empty_of_size_eq_zero (aP h3)
  rw [<-e1,<-e2,<-e3,<-e],by unfold As;rw [e]⟩
set_option tactic.hygienic true in
theorem Vq{w:World}{X:Em}{h:Heap}(B:Base w X η h){v:Value}{p:PV}(hb:y9 w.params v p=true):VR X v p:=by
 unfold y9 at hb
 split at hb
 ·refine jP (ajP hb) λe i=>?_
  subst e
  exact .st i
 ·split at hb
  ·rename_i l a
   simp only [aN] at hb
   refine jP (hb) λLk h3=>?_
   obtain ⟨h1,h2⟩:=Lk
   refine o6 (cz.mp h3) λo ho=>?_
   have e:lE w.params a=o:=by
    unfold lE;rw [ho];exact eA _
   rw [e] at h1 h2
   refine oH (ajR h1) λxs n e1 e2=>?_
   rw [e2] at h2
   subst e1
   exact .tup (vs:=xs.toList) (n:=n) (by unfold Internal.tX;rw [Array.toArray_toList];exact B.st ho) (Lf h2)
  ·exact xf hb
 ·exact Vf hb
set_option tactic.hygienic true in
theorem Vr{es:Array DictEntry}(h:za es=true):StrKeys es:=λe he=>by
 have:=aI.mp h e (eX.mpr he)
 split at this
 ·rename_i x t q;exact ⟨x,t,q⟩
 ·exact xf this
theorem Ln{w:World}{X:Em}{h:Heap}(B:Base w X η h){a:Nat}{o:Obj}(ho:(objs w.params)[a]?=some o)(hd:o.data=.dict (oA o) (Av o))(hk:za (oA o)=true):h.Ns a (nsFind (oA o)):=
 ⟨o,oA o,Av o,B.fz (B.st ho),hd,Vr hk,λJ=>rfl⟩
theorem ajS{P:Params}{a b:Option Value}{p:PV}(h:Lj P a b p=true):∃v,y9 P v p=true/\(a=some v\/(a=none/\b=some v)):=by
 unfold Lj at h
 split at h
 ·exact ⟨_,h,.inl rfl⟩
 ·split at h
  ·exact ⟨_,h,.inr ⟨rfl,rfl⟩⟩
  ·exact xf h
theorem ajT{w:World}{x:Str}{p:PV}(h:jv tab.glob x=some p){X:Em}{η:AH}{hp:Heap}(B:Base w X η hp):∃v,VR X v p/\∃mg mb,hp.Ns mainGlobals mg/\hp.Ns builtinsNs mb/\(mg x=some v\/(mg x=none/\mb x=some v)):=by
 have h1:=aI.mp (ajK w.params) _ (uf h)
 have n3:=Ln B (Lh w.params).1 (Lh w.params).2.1 (Lh w.params).2.2
 have n0:=Ln B (Li w.params).1 (Li w.params).2.1 (Li w.params).2.2
 refine jZ (ajS h1) λv hb q=>?_
 exact ⟨v,Vq B hb,_,_,n3,n0,q⟩
theorem ajU{w:World}{X:Em}{η:AH}{h:Heap}(B:Base w X η h):h.NoLimit:=⟨_,Ln B (FU w.params).1 (FU w.params).2.1 (FU w.params).2.2.1,(FU w.params).2.2.2⟩
def qy(e:DictEntry):Str:=match e.key with
|.str x _=>x
|_=>bh #[]
noncomputable def Vs(e:DictEntry):Nat:=match e.key with
|.str _ t=>t
|_=>0
def CQ(P:Params):List DictEntry->List (Str×PV)->Bool
|[],[]=>true
|e::es,p::ps=>sq (qy e) p.1 && y9 P e.val p.2 && CQ P es ps
|_,_=>false
def ajV(P:Params)(a:Addr)(l:List (Str×PV)):Bool:=CQ P (oA (lE P a)).toList l && za (oA (lE P a)) && Au ((oA (lE P a)).toList.map qy) && !aj a 1
theorem ajW(P:Params):(tab.t4.all λp=>ajV P p.1 p.2)=true:=by kernel_rfl
structure Lp(P:Params)(a:Addr):Prop where
 ob:(objs P)[a]?=some ⟨.type "dict",none,.dict (oA (lE P a)) (Av (lE P a)),#[]⟩
 hs:oA (lE P a)=((oA (lE P a)).toList.map λe=>(⟨fU P (qy e),.str (qy e) (Vs e),e.val⟩:DictEntry)).toArray
theorem ajX(P:Params):Lp P 767:=⟨by kernel_rfl,by kernel_rfl⟩
theorem ajY(P:Params):Lp P 770:=⟨by kernel_rfl,by kernel_rfl⟩
theorem ajZ(P:Params):∀a l,(a,l)∈tab.t4->Lp P a:=by
 intro a l h
 have h':a=767\/a=770:=by
  have:(tab.t4.all λp=>aj p.1 767 || aj p.1 770)=true:=by kernel_rfl
  have:=aI.mp this _ h
  rw [bC] at this
  rcases this with q|q
  ·exact .inl (aP q)
  ·exact .inr (aP q)
 rcases h' with rfl|rfl
 ·exact ajX P
 ·exact ajY P
theorem Vt{w:World}:∀{es:List DictEntry},(∀e∈es,∃n t,e.key=.str n t)->PySem.Pairs (PySem.strKind pw w) es (es.map λe=>(qy e,e.val))
|[],_=>.nil
|e::es,h=>by
  obtain ⟨x,t,q⟩:=h e (bL ..)
  refine .cons ?_ rfl (Vt λe' he=>h e' (bu _ he))
  show (PySem.strKind pw w).is (qy e) e.key=true
  have:qy e=x:=by unfold qy;rw [q]
  rw [this,q]
  exact strKind_is pw w x t
theorem Vu{w:World}{X:Em}{η:AH}{h:Heap}(B:Base w X η h):∀{es:List DictEntry} {l:List (Str×PV)},CQ w.params es l=true->KR X (es.map λe=>(qy e,e.val)) l
|[],[],_=>.nil
|e::es,(x,p)::ps,hb=>by
  have h':(sq (qy e) x && y9 w.params e.val p && CQ w.params es ps)=true:=hb
  simp only [aN] at h'
  obtain ⟨⟨h1,h2⟩,h3⟩:=h'
  have:=kj.mp h1
  subst this
  exact .cons (Vq B h2) (Vu B h3)
|[],_::_,h=>by cases h
|_::_,[],h=>by cases h
theorem aj0(w:World):JC w tab:=⟨λ{a l} hl {X η h} B=>by
 have m:=vg hl
 have h1:=aI.mp (ajW w.params) _ m
 have K:=ajZ w.params a l m
 have s9:(CQ w.params (oA (lE w.params a)).toList l && za (oA (lE w.params a)) && Au ((oA (lE w.params a)).toList.map qy) && !aj a 1)=true:=h1
 simp only [aN] at s9
 obtain ⟨⟨⟨k1,k2⟩,k3⟩,k4⟩:=s9
 obtain ⟨ob,hs⟩:=K
 generalize oA (lE w.params a)=es at *
 have ne:a≠sysModules:=λe=>by
  subst e
  cases k4
 refine ⟨ne,es.toList.map λe=>(qy e,e.val),?_,Vu B k1⟩
 have sk:=Vr k2
 refine ⟨_,es,_,B.fz (B.st ob),?_,rfl,λe he=>?_,Vt λe he=>sk e (eX.mp he),?_⟩
 ·exact ⟨rfl,rfl,rfl⟩
 ·obtain ⟨x,t,q⟩:=sk e he
  refine ⟨x,by rw [q];exact strKind_is pw w x t,?_⟩
  rw [hs] at he
  simp only [List.mem_toArray,aQ] at he
  obtain ⟨e',_,rfl⟩:=he
  have:qy e'=x:=by
   have q':Value.str (qy e') (Vs e')=.str x t:=q
   injection q'
  rw [<-this]
  show fU w.params (qy e')=hashStr w (qy e')
  rfl
 ·rw [fh]
  exact Lg k3⟩
theorem aj1(P:Params){a:Addr}{fi:rR}(h:jL tab.pV a=some fi):keepIn (Kf P) (.ref a)=true:=(aI.mp (ajF P) (a,fi) (vg h) :)
theorem aj2(P:Params){a fi:Addr}(h:jL tab.oU a=some fi):keepIn (Kf P) (.ref a)=true:=(aI.mp (ajG P) (a,fi) (vg h) :)
theorem aj3{w:World}{a:Addr}{fi:rR}(h:jL tab.pV a=some fi):∃o fd dv,FnAt w a fi o fd dv:=(ajB w.params h).at
theorem good(w:World)(S:Cw w):Good w tab:=
 @Good.mk w tab (@ajT w) (aj0 w) (ajL w.params) (@ajM w.params) (@aj1 w.params) (@aj2 w.params) (@aj3 w) (@ajU w) (@ajN w.params) (ajO w.params) S
section
noncomputable def runK{α:Type}(c:Nat->Nat->Bool):KasT α->α
|.ret a=>a
|.ask i j k=>runK c (k (c i j))
theorem Aw{α β:Type}{c:Nat->Nat->Bool}{f:α->KasT β}:∀(t:KasT α),runK c (t.bind f)=runK c (f (runK c t))
|.ret _=>rfl
|.ask i j k=>Aw (k (c i j))
structure Ord(c:Nat->Nat->Bool)(N:Nat):Prop where
 tr:∀i j k,i<N->j<N->k<N->c i j=true->c j k=true->c i k=true
 CT:∀i j,i<N->j<N->i≠j->c i j=false->c j i=true
structure oY(N:Nat)(p:Array Nat):Prop where
 sz:p.size=N
 pm:p.toList.Perm (aX N)
section
variable{c:Nat->Nat->Bool}{N:Nat}{p:Array Nat}
noncomputable abbrev j0(p:Array Nat)(i:Nat):Nat:=p.getD i 0
theorem zb{i:Nat}(h:i<p.size):p[i]?=some (j0 p i):=by
 unfold j0
 rw [dK,d9 h];rfl
theorem FW{q:Array Nat}{i:Nat}(h:p[i]?=q[j]?):j0 p i=j0 q j:=by
 unfold j0
 rw [dK,dK,h]
theorem oY.lt(P:oY N p){i:Nat}(h:i<N):j0 p i<N:=by
 have h1:=zb (p:=p) (i:=i) (by rw [P.sz];exact h)
 have:j0 p i∈p.toList:=eX.mpr (iU h1)
 have:=(P.pm.mem_iff).mp this
 exact List.mem_range.mp this
theorem oY.ne(P:oY N p){i:Nat}(hi:i<N)(hj:j<N)(h:i≠j):j0 p i≠j0 p j:=λe=>by
 have nd:p.toList.Nodup:=P.pm.nodup_iff.mpr List.nodup_range
 have h1:=zb (p:=p) (i:=i) (by rw [P.sz];exact hi)
 have h2:=zb (p:=p) (i:=j) (by rw [P.sz];exact hj)
 rw [e] at h1
 rw [<-gB] at h1 h2
 have l1:i<p.toList.length:=by rw [ez,P.sz];exact hi
 exact h ((List.getElem?_inj l1 nd).mp (h1.trans h2.symm))
def ro(c:Nat->Nat->Bool)(p:Array Nat)(m:Nat):Prop:=∀i j,i<j->j<m->c (j0 p i) (j0 p j)=true
def Ax(c:Nat->Nat->Bool)(p:Array Nat)(m:Nat):Prop:=∀i j,i<j->j<m->c (j0 p j) (j0 p i)=true
theorem ro.one:ro c p 1:=λi j h k=>absurd (aA h (aO k)) (dX _)
theorem Lq(O:Ord c N)(P:oY N p):∀(f n:Nat),1<=n->n+f<=N->ro c p n->ro c p (runK c (kas_asc p f n))/\n<=runK c (kas_asc p f n)/\runK c (kas_asc p f n)<=n+f/\(runK c (kas_asc p f n)<n+f->c (j0 p (runK c (kas_asc p f n))) (j0 p (runK c (kas_asc p f n) - 1))=true)
|0,n,h1,h2,h=>⟨h,ak _,ak _,λq=>absurd q (aM _)⟩
|f+1,n,h1,h2,h=>by
  show ro c p (runK c (if c (j0 p n) (j0 p (n - 1))=true then .ret n else kas_asc p f (n+1)))/\n<=runK c (if c (j0 p n) (j0 p (n - 1))=true then .ret n else kas_asc p f (n+1))/\runK c (if c (j0 p n) (j0 p (n - 1))=true then .ret n else kas_asc p f (n+1))<=n+(f+1)/\
   (runK c (if c (j0 p n) (j0 p (n - 1))=true then .ret n else kas_asc p f (n+1))<n+(f+1)->c (j0 p (runK c (if c (j0 p n) (j0 p (n - 1))=true then .ret n else kas_asc p f (n+1)))) (j0 p (runK c (if c (j0 p n) (j0 p (n - 1))=true then .ret n else kas_asc p f (n+1)) - 1))=true)
  induction q:c (j0 p n) (j0 p (n - 1)) using Bool.casesOn with
 |true=>exact ⟨h,ak _,aG _ _,λJ=>q⟩
 |false=>
   rw [if_neg (dc rfl)]
   have up:c (j0 p (n - 1)) (j0 p n)=true:=O.CT _ _ (P.lt (zJ h2)) (P.lt (zK h2)) (P.ne (zJ h2) (zK h2) (acw h1)) q
   have h':ro c p (n+1):=λi j hi hj=>by
    by_cases e:j=n
    ·subst e
     by_cases e2:i=j - 1
     ·subst e2;exact up
     ·exact O.tr _ _ _ (P.lt (PS hi h2)) (P.lt (zK h2)) (P.lt (zJ h2)) (h i (j - 1) (Iv hi e2) (acy h1)) up
    ·exact h i j hi (PT hj e)
   refine zL (Lq O P f (n+1) (acz) (PW h2) h') λa b d e=>?_
   exact ⟨a,by exact Iu b,by exact acA d,λq=>e (acB q)⟩
theorem Vv(O:Ord c N)(P:oY N p):∀(f n:Nat),2<=n->n+f<=N->Ax c p n->∃m,runK c (kas_desc f p n 0)=(p,m,0)/\n<=m/\m<=N/\Ax c p m
|0,n,h1,h2,h=>⟨n,rfl,ak _,by assumption,h⟩
|f+1,n,h1,h2,h=>by
  show ∃m,runK c (if c (j0 p n) (j0 p (n - 1))=true then (if 0>0 then kas_desc f (kas_rev p (n - (0+1)) n) (n+1) 0 else kas_desc f p (n+1) 0)
   else .ask (j0 p (n - 1)) (j0 p n) λd=>if d=true then .ret (p,n,0) else kas_desc f p (n+1) (0+1))=(p,m,0)/\n<=m/\m<=N/\Ax c p m
  induction q:c (j0 p n) (j0 p (n - 1)) using Bool.casesOn with
 |true=>
   rw [if_pos rfl,if_neg (dc rfl)]
   have h':Ax c p (n+1):=λi j hi hj=>by
    by_cases e:j=n
    ·subst e
     by_cases e2:i=j - 1
     ·subst e2;exact q
     ·exact O.tr _ _ _ (P.lt (zJ h2)) (P.lt (zK h2)) (P.lt (PS hi h2)) q (h i (j - 1) (Iv hi e2) (acC h1))
    ·exact h i j hi (PT hj e)
   refine BQ (Vv O P f (n+1) (acD h1) (PW h2) h') λm a b d e=>?_
   exact ⟨m,a,by exact Iu b,d,e⟩
 |false=>
   rw [if_neg (dc rfl)]
   have up:c (j0 p (n - 1)) (j0 p n)=true:=O.CT _ _ (P.lt (zJ h2)) (P.lt (zK h2)) (P.ne (zJ h2) (zK h2) (acE h1)) q
   refine ⟨n,?_,ak _,by exact acF h2,h⟩
   show runK c (if c (j0 p (n - 1)) (j0 p n)=true then _ else _)=_
   rw [up,if_pos rfl];rfl
theorem oY.rev(P:oY N p)(i j:Nat):oY N (kas_rev p i j):=⟨(mirror_size ..).trans P.sz,(iV.mp (mirror_perm p i j _)).trans P.pm⟩
theorem oY.bub(P:oY N p)(k d:Nat):oY N (bubble p k d):=⟨(bubble_size ..).trans P.sz,(iV.mp (bubble_perm p k d)).trans P.pm⟩
theorem aj4(P:oY N p){m:Nat}(hm:m<=N)(h:Ax c p m):ro c (kas_rev p 0 m) m:=λi j hi hj=>by
 have g:∀k,k<m->j0 (kas_rev p 0 m) k=j0 p (m - 1 - k):=λk hk=>FW (by
  have:=getElem?_mirror_all (xs:=p) (i:=0) (j:=m) (by rw [P.sz];exact hm) k
  rw [if_pos ⟨bx _,hk⟩,cU] at this
  exact this)
 rw [g i (acG hi hj),g j hj]
 exact h (m - 1 - j) (m - 1 - i) (acH hi hj) (acI hj)
theorem aj5(O:Ord c N)(P:oY N p)(hN:2<=N):∃m q,runK c (kas_count N p)=(m,q)/\oY N q/\1<=m/\m<=N/\ro c q m:=by
 refine zL (Lq O P (N - 1) 1 (ak _) (acJ hN) ro.one) λa b d e=>?_
 unfold kas_count
 rw [Aw]
 generalize hm:runK c (kas_asc p (N - 1) 1)=m at *
 by_cases h1:(m == N)=true
 ·rw [if_pos h1]
  exact IG m p rfl P b (PY hN d) a
 ·rw [if_neg h1]
  by_cases h2:m>1
  ·rw [if_pos h2]
   have up:=a 0 (m - 1) (acK h2) (acL h2)
   refine IG m p ?_ P b (PY hN d) a
   show runK c (if c (j0 p 0) (j0 p (m - 1))=true then _ else _)=_
   rw [up,if_pos rfl];rfl
  ·rw [if_neg h2]
   have pQ:m=1:=acM b h2
   subst pQ
   have hd:Ax c p 2:=λi j hi hj=>by
    have:i=0/\j=1:=acN hi hj
    refine jP (this) λlX pJ=>?_
    obtain rfl:=lX
    obtain rfl:=pJ
    exact e (by
     have:¬ (1 == N)=true:=h1
     simp at this;exact acO hN)
   refine BQ (Vv O P (N - (1+1)) (1+1) (ak _) (acP hN) hd) λm r1 r2 r3 r4=>?_
   unfold kas_descPart
   rw [Aw,r1]
   dsimp only
   rw [if_neg (dc rfl)]
   unfold kas_tail3
   rw [Aw]
   refine zL (Lq O (P.rev 0 m) (N - m) m (acQ r2) (acR r3) (aj4 P r3 r4)) λa' b' d' J=>?_
   exact IG _ _ rfl (P.rev 0 m) (acS r2 b') (acT r3 d') a'
theorem Lr(O:Ord c N)(P:oY N p){k:Nat}(hk:k<N):∀(f l r:Nat),l<=r->r<=k->r - l<=f->(∀i,i<l->c (j0 p i) (j0 p k)=true)->(∀i,r<=i->i<k->c (j0 p k) (j0 p i)=true)->ro c p k->
  ∃m,runK c (kas_place p k f l r)=m/\m<=k/\(∀i,i<m->c (j0 p i) (j0 p k)=true)/\(∀i,m<=i->i<k->c (j0 p k) (j0 p i)=true)
|0,l,r,h1,h2,h3,h4,h5,h6=>⟨l,rfl,by exact Ih h1 h2,h4,λi a b=>h5 i (acU h3 a) b⟩
|f+1,l,r,h1,h2,h3,h4,h5,h6=>by
  show ∃m,runK c (if l>=r then .ret l else .ask (j0 p k) (j0 p ((l+r) / 2)) λq=>if q=true then kas_place p k f l ((l+r) / 2) else kas_place p k f ((l+r) / 2+1) r)=m/\_
  by_cases FY:l>=r
  ·rw [if_pos FY]
   exact ⟨l,rfl,by exact Ih h1 h2,h4,λi a b=>h5 i (Ih FY a) b⟩
  ·rw [if_neg FY]
   show ∃m,runK c (if c (j0 p k) (j0 p ((l+r) / 2))=true then _ else _)=m/\_
   have vh:(l+r) / 2<r/\l<=(l+r) / 2:=acV FY
   induction q:c (j0 p k) (j0 p ((l+r) / 2)) using Bool.casesOn with
  |true=>
    rw [if_pos rfl]
    refine Lr O P hk f l ((l+r) / 2) vh.2 (acW h2 vh) (acX h3) h4 (λi a b=>?_) h6
    by_cases e:i=(l+r) / 2
    ·rw [e];exact q
    ·exact O.tr _ _ _ (P.lt hk) (P.lt (Ef hk h2 vh)) (P.lt (Eg hk b)) q (h6 ((l+r) / 2) i (acY a e) b)
  |false=>
    rw [if_neg (dc rfl)]
    have up:=O.CT _ _ (P.lt hk) (P.lt (i:=(l+r) / 2) (Ef hk h2 vh)) (P.ne hk (Ef hk h2 vh) (acZ h2 vh)) q
    refine Lr O P hk f ((l+r) / 2+1) r (ac0 vh) h2 (ac1 h3) (λi a=>?_) h5 h6
    by_cases e:i=(l+r) / 2
    ·rw [e];exact up
    ·exact O.tr _ _ _ (P.lt (ac2 hk h2 vh a)) (P.lt (Ef hk h2 vh)) (P.lt hk) (h6 i ((l+r) / 2) (ac3 a e) (ac4 h2 vh)) up
theorem Vx(O:Ord c N):∀(f:Nat) (p:Array Nat) (k:Nat),oY N p->k+f=N->ro c p k->oY N (runK c (kas_bin f p k))/\ro c (runK c (kas_bin f p k)) N
|0,p,k,P,h,a=>⟨P,by have:k=N:=h;subst this;exact a⟩
|f+1,p,k,P,h,a=>by
  show oY N (runK c ((kas_place p k k 0 k).bind λl=>kas_bin f (bubble p k (k - l)) (k+1)))/\ro c (runK c ((kas_place p k k 0 k).bind λl=>kas_bin f (bubble p k (k - l)) (k+1))) N
  rw [Aw]
  refine BQ (Lr O P (k:=k) (PZ h) k 0 k (bx _) (ak _) (eS _ _) (λi h=>absurd h (dX _)) (λi a b=>absurd b (Nat.not_lt.mpr a)) a) λm e hm lo hi=>?_
  rw [e]
  refine Vx O f (bubble p k (k - m)) (k+1) (P.bub _ _) (ac5 h) λi j qM hj=>?_
  have g:∀t,t<=k->j0 (bubble p k (k - m)) t=if t=m then j0 p k else if m<t then j0 p (t - 1) else j0 p t:=λt ht=>by
   have b:=getElem?_bubble (xs:=p) (src:=k) (by rw [P.sz];exact PZ h) (k - m) (ac6) t
   have e1:k - (k - m)=m:=ac7 hm
   rw [e1] at b
   by_cases q1:t=m
   ·rw [if_pos q1] at b ⊢;exact FW b
   ·rw [if_neg q1] at b ⊢
    by_cases q2:m<t
    ·rw [if_pos ⟨q2,ht⟩] at b
     rw [if_pos q2];exact FW b
    ·rw [if_neg (λz=>q2 z.1)] at b
     rw [if_neg q2];exact FW b
  rw [g i (ac8 qM hj),g j (ac9 hj)]
  by_cases i1:i=m
  ·rw [if_pos i1,if_neg (ada qM i1),if_pos (adb qM i1)]
   exact hi (j - 1) (ade qM i1) (Iw qM hj)
  ·rw [if_neg i1]
   by_cases i2:m<i
   ·rw [if_pos i2,if_neg (adf qM i2),if_pos (Eg qM i2)]
    exact a (i - 1) (j - 1) (adg qM i2) (Iw qM hj)
   ·rw [if_neg i2]
    by_cases j1:j=m
    ·rw [if_pos j1];exact lo i (adh qM j1)
    ·rw [if_neg j1]
     by_cases j2:m<j
     ·rw [if_pos j2]
      by_cases q:i=j - 1
      ·exact absurd (dG j2) (λz=>i2 (c7 (ah z (aq q.symm)) λe=>i1 e.symm))
      ·exact a i (j - 1) (Iv qM q) (Iw qM hj)
     ·rw [if_neg j2];exact a i j qM (adi hm j1 j2)
theorem aj6(O:Ord c N)(hN:2<=N):oY N (runK c (kas_sort N))/\ro c (runK c (kas_sort N)) N:=by
 have P0:oY N (cK (aX N)):=⟨by simp,.refl _⟩
 refine aeX (aj5 O P0 hN) λm q e P h1 h2 a=>?_
 unfold kas_sort
 rw [Aw,e]
 dsimp only
 by_cases h:m<N
 ·rw [if_pos h]
  have:max m 1=m:=adj h1
  rw [this]
  exact Vx O (N - m) q m P (adk h) a
 ·rw [if_neg h]
  have:m=N:=adl h2 h
  subst this
  exact ⟨P,a⟩
end
end
section
open PySem.SeqAt
open PySem.AutoSeq1 (wpAny_loadPart')
def Ls(A:Around)(s:Shared)(x y:Value)(b:Bool):Prop:=
 ∀(prog:Program) (w:World) (E:Value->Shared->Prop) (Q:Value->Shared->Prop),Q (.bool b) s->wpAny (model prog w) A (richCompare .Lt x y) Q E s
noncomputable def Ay(e r:Nat->Bool)(fin:Bool):List Nat->Bool
|[]=>fin
|i::t=>if e i=true then Ay e r fin t else r i
theorem aj7(l b:Addr)(items oZ:Array Value)(n n2:Nat)(dd dd2:Option Addr)(sl sl2:Array (Option Value))(e r:Nat->Bool):
  Meets (Builtin.«tuple.__lt__» ⟨[.ref l,.ref b],[]⟩)
   (λA R s=>s.heap.get? l=some { cls:=.type "tuple",dict:=dd,data:=.seq items n,slots:=sl }/\s.heap.get? b=some { cls:=.type "tuple",dict:=dd2,data:=.seq oZ n2,slots:=sl2 }/\
    (∀j (h1:j<items.size) (h2:j<oZ.size),EqAt A.in1 s items[j] oZ[j] (e j))/\(∀j (h1:j<items.size) (h2:j<oZ.size),e j=false->Ls A.in1 s items[j] oZ[j] (r j))/\
    R (.ok (.ret (.bool (Ay e r (decide (items.size<oZ.size)) (aX (min items.size oZ.size)))))) s):=
 .of_wp λprog w A R s h=>by
  obtain ⟨hp,g,d,tk,os⟩:=s;obtain ⟨hl,hb,he,hr,h⟩:=h
  have f2:=AutoSeq1.sub_tuple_tuple
  have hZ:(items.toList.zip oZ.toList).length=min items.size oZ.size:=by simp
  wp_walk using wpAny_loadPart' hl,wpAny_loadPart' hb,wpAny_forIn_list _ (λrest b s'=>b.1=none/\s'=⟨hp,g,d,tk,os⟩/\∃i,rest=(items.toList.zip oZ.toList).drop i/\
   R (.ok (.ret (.bool (Ay e r (decide (items.size<oZ.size)) ((aX (min items.size oZ.size)).drop i))))) ⟨hp,g,d,tk,os⟩) _
  case turn=>
   rintro ⟨y,x⟩ rest b s' ⟨Lv,rfl,i,hz,hR⟩
   have qN:i<(items.toList.zip oZ.toList).length:=by
    rcases Nat.lt_or_ge i (items.toList.zip oZ.toList).length with h'|h'
    ·exact h'
    ·rw [iW h'] at hz;cases hz
   have hm:i<min items.size oZ.size:=hZ▸qN
   have h1:i<items.size:=aA hm (fO _ _)
   have h2:i<oZ.size:=aA hm (Nat.min_le_right _ _)
   rw [gC qN] at hz
   injection hz with Vy qO
   have hy:y=items[i]:=by have:=congrArg az Vy;simpa using this
   have hx:x=oZ[i]:=by have:=congrArg cP Vy;simpa using this
   subst hy hx
   have hd:(aX (min items.size oZ.size)).drop i=i::(aX (min items.size oZ.size)).drop (i+1):=by simp [gC,hm]
   rw [hd] at hR
   unfold Ay at hR
   refine wpAny_bind (he i h1 h2 prog w _ _ ?_)
   cases hy:e i with
  |true=>
    rw [hy,if_pos rfl] at hR
    wp_walk
    exact ⟨rfl,rfl,i+1,qO,hR⟩
  |false=>
    rw [hy,if_neg (dc rfl)] at hR
    rw [if_pos (dc rfl)]
    refine wpAny_bind (wpAny_rule ?_)
    refine wpAny_bind (hr i h1 h2 hy prog w _ _ ?_)
    refine wpAny_bind (wpAny_pure (a:=Fin.done (.ret (.bool (r i)))) (wpAny_pure ?_))
    exact wpAny_pure ⟨_,rfl,hR⟩
  case fin=>
   rintro ⟨b1,b2⟩ s' ⟨Lv,rfl,i,hz,hR⟩
   simp only at Lv
   subst Lv
   have hge:min items.size oZ.size<=i:=by
    rcases Nat.lt_or_ge i (items.toList.zip oZ.toList).length with h'|h'
    ·rw [gC h'] at hz;cases hz
    ·exact hZ▸h'
   rw [iW (by simpa using hge)] at hR
   wp_walk
   exact ⟨_,rfl,by simpa [Builtin.Tuple.tupleCompareSizes,Ay] using hR⟩
  case h=>
   exact ⟨rfl,rfl,0,rfl,by simpa using h⟩
end
section
open PySem.SeqAt
def mz{α:Type}(N:Nat)(G:α->Prop):KasT α->Prop
|.ret a=>G a
|.ask i j k=>i<N/\j<N/\∀b,mz N G (k b)
theorem mz.bind{α β:Type}{N:Nat}{G:α->Prop}{G':β->Prop}{f:α->KasT β}(hf:∀a,G a->mz N G' (f a)):∀(t:KasT α),mz N G t->mz N G' (t.bind f)
|.ret a,h=>hf a h
|.ask i j k,h=>⟨h.1,h.2.1,λb=>mz.bind hf (k b) (h.2.2 b)⟩
theorem mz.ite{α:Type}{N:Nat}{G:α->Prop}{c:Prop}[Decidable c]{a b:KasT α}(ha:c->mz N G a)(hb:¬ c->mz N G b):mz N G (if c then a else b):=by
 by_cases h:c
 ·rw [if_pos h];exact ha h
 ·rw [if_neg h];exact hb h
def qc(N:Nat)(p:Array Nat):Prop:=∀x,j0 p x<N
theorem qc.perm{N:Nat}{p q:Array Nat}(hN:0<N)(h:q.Perm p)(B:qc N p):qc N q:=λx=>by
 by_cases hx:x<q.size
 ·have h1:=zb hx
  have m:j0 q x∈q:=iU h1
  have m':j0 q x∈p:=(Array.Perm.mem_iff h).mp m
  obtain ⟨i,hi,e⟩:=Array.mem_iff_getElem.mp m'
  have:=B i
  have e2:j0 p i=p[i]:=by
   have:=zb hi
   rw [d9 hi] at this
   exact (ai this).symm
  rw [<-e,<-e2];exact this
 ·show q.getD x 0<N
  rw [dK,Array.getElem?_eq_none (dH hx)]
  exact hN
section
variable{N:Nat}
theorem Lw{p:Array Nat}(B:qc N p){G:Nat->Prop}(hG:∀m,G m):∀(f n:Nat),mz N G (kas_asc p f n)
|0,n=>hG n
|f+1,n=>⟨B n,B (n - 1),λb=>mz.ite (λJ=>hG n) λJ=>Lw B hG f (n+1)⟩
theorem FZ(hN:0<N):∀(f:Nat) (p:Array Nat) (n q:Nat),qc N p->mz N (λr:Array Nat×Nat×Nat=>qc N r.1) (kas_desc f p n q)
|0,p,n,q,B=>B
|f+1,p,n,q,B=>⟨B n,B (n - 1),λb=>mz.ite
   (λJ=>mz.ite (λJ=>FZ hN f _ _ _ (B.perm hN (mirror_perm p _ _ _))) λJ=>FZ hN f _ _ _ B)
   λJ=>⟨B (n - 1),B n,λd=>mz.ite (λJ=>B) λJ=>FZ hN f _ _ _ B⟩⟩
theorem Vz(hN:0<N){p:Array Nat}(B:qc N p)(n CV:Nat):mz N (λr:Nat×Array Nat=>qc N r.2) (kas_tail3 n CV p):=by
 unfold kas_tail3
 refine mz.bind (G:=λJ=>True) (λm J=>?_) _ (Lw (B.perm hN (mirror_perm p _ _ _)) (λJ=>trivial) _ _)
 show qc N (kas_rev p 0 n)
 exact B.perm hN (mirror_perm p _ _ _)
theorem VA(hN:0<N){p:Array Nat}(B:qc N p)(n CV:Nat):mz N (λr:Nat×Array Nat=>qc N r.2) (kas_descPart n CV p):=by
 unfold kas_descPart
 refine mz.bind (λr h=>?_) _ (FZ hN _ _ _ _ B)
 exact mz.ite (λJ=>Vz hN (qc.perm hN (mirror_perm r.1 _ _ _) h) _ _) λJ=>Vz hN h _ _
theorem aj8(hN:0<N){p:Array Nat}(B:qc N p)(CV:Nat):mz N (λr:Nat×Array Nat=>qc N r.2) (kas_count CV p):=by
 unfold kas_count
 refine mz.bind (G:=λJ=>True) (λn J=>?_) _ (Lw B (λJ=>trivial) _ _)
 refine mz.ite (λJ=>B) λJ=>mz.ite (λJ=>?_) λJ=>VA hN B _ _
 exact ⟨B 0,B (n - 1),λb=>mz.ite (λJ=>B) λJ=>VA hN (B.perm hN (mirror_perm p _ _ _)) _ _⟩
theorem Lx{p:Array Nat}(B:qc N p)(k:Nat):∀(f l r:Nat),mz N (λ_:Nat=>True) (kas_place p k f l r)
|0,l,r=>trivial
|f+1,l,r=>mz.ite (λJ=>trivial) λJ=>⟨B k,B _,λb=>mz.ite (λJ=>Lx B k f _ _) λJ=>Lx B k f _ _⟩
theorem VB(hN:0<N):∀(f:Nat) (p:Array Nat) (k:Nat),qc N p->mz N (λ_:Array Nat=>True) (kas_bin f p k)
|0,p,k,B=>trivial
|f+1,p,k,B=>mz.bind (λl J=>VB hN f _ _ (B.perm hN (bubble_perm p k _))) _ (Lx B k _ _ _)
theorem aj9(hN:0<N):mz N (λ_:Array Nat=>True) (kas_sort N):=by
 have B:qc N (cK (aX N)):=λx=>by
  show (cK (aX N)).getD x 0<N
  rw [dK]
  by_cases h:x<N
  ·simp [h]
  ·simp [h];exact hN
 unfold kas_sort
 refine mz.bind (λr h=>?_) _ (aj8 hN B N)
 exact mz.ite (λJ=>VB hN _ _ _ h) λJ=>trivial
end
theorem wp_run{α:Type}{N:Nat}{c:Nat->Nat->Bool}{cmp:Nat->Nat->(Bool->Shared->Prop)->Shared->Prop}{s:Shared}(hc:∀i j,i<N->j<N->∀C:Bool->Shared->Prop,C (c i j) s->cmp i j C s){Q:α->Shared->Prop}{G:α->Prop}:∀(t:KasT α),mz N G t->Q (runK c t) s->t.kasWp cmp Q s
|.ret a,_,q=>q
|.ask i j k,h,q=>hc i j h.1 h.2.1 _ (wp_run hc (k (c i j)) (h.2.2 _) q)
end
section
open PySem.SeqAt
section
variable{w:World}{E:Value->Shared->Prop}{s:Shared}
def vj(c:Nat->Nat->Bool)(vs:List Value):List Value:=(runK c (kas_sort vs.length)).toList.map λi=>vs.getD i dj
theorem aka{a:Addr}{vs:List Value}{c:Nat->Nat->Bool}{P:PySem.Fin->Shared->Prop}(ho:s.heap.get? a=some (seqObj "list" vs.toArray n))(h2:2<=vs.length)(xR:vs.length<64)
  (hk:∀h':Heap,(∀b o,b≠a->s.heap.get? b=some o->h'.get? b=some o)->∀Q:SortKind->Shared->Prop,Q (tuples' false) { s with heap:=h' }->wpAny (model prog w) A (keyKind' vs.toArray) Q (λJ J=>False) { s with heap:=h' })
  (hc:∀h':Heap,(∀b o,b≠a->s.heap.get? b=some o->h'.get? b=some o)->∀i j,i<vs.length->j<vs.length->∀C:Bool->Shared->Prop,C (c i j) { s with heap:=h' }->kas_ask prog w A (tuples' false) vs i j C { s with heap:=h' })
  (h:∀h' e,(∀b o,b≠a->s.heap.get? b=some o->h'.get? b=some o)->h'.get? a=some (seqObj "list" (vj c vs).toArray e)->P (.done (.ret .none)) { s with heap:=h' }) :
  wpAny (model prog w) A (Builtin.«list.sort» ⟨[.ref a],[]⟩) P E s:=by
 have ha:a<s.heap.objs.size:=cH ho
 have s1:=d8 s.heap a (bc λJ=>(#[]:Array Value))
 obtain ⟨e1,VC⟩:∃e1,(s.heap.update a (bc λJ=>(#[]:Array Value))).get? a=some (seqObj "list" #[] e1):=⟨_,get?_update_seq ho λJ=>#[]⟩
 have keep:∀b o,b≠a->s.heap.get? b=some o->(((s.heap.update a (bc λJ=>(#[]:Array Value))).push (seqObj "tuple" vs.toArray 0)).push (seqObj "list" #[] 0)).get? b=some o:=λb o hb e=>
  bS _ (bS _ ((s1.2 b hb).trans e))
 have na:(((s.heap.update a (bc λJ=>(#[]:Array Value))).push (seqObj "tuple" vs.toArray 0)).push (seqObj "list" #[] 0)).get? a=some (seqObj "list" #[] e1):=bS _ (bS _ VC)
 rw [list_sort_plain]
 refine wpAny_bind (listItems_at ho rfl ?_)
 refine wpAny_bind (listUpdate_at ho rfl ?_ (by rw [bM,sizeLine_eq];exact Eh xR) (bx _))
 refine wpAny_bind (seqEpoch_at VC rfl ?_)
 refine wpAny_bind (wpAny_newTuple ?_ (by show vs.length<=_;rw [sizeLine_eq];exact Eh xR))
 refine wpAny_bind (wpAny_newList ?_ (bx _))
 refine wpAny_holding ?_
 show wpAny (model prog w) A _ P E { s with heap:=((s.heap.update a (bc λJ=>(#[]:Array Value))).push (seqObj "tuple" vs.toArray 0)).push (seqObj "list" #[] 0) }
 generalize ((s.heap.update a (bc λJ=>(#[]:Array Value))).push (seqObj "tuple" vs.toArray 0)).push (seqObj "list" #[] 0)=H at keep na ⊢
 dsimp only
 have sf:¬ vs.toArray.size<2:=by rw [bM];exact adn h2
 rw [if_neg sf,if_neg sf]
 refine wpAny_bind (wpAny_mono (hk H keep (λκ s'=>κ=tuples' false/\s'={ s with heap:=H }) ⟨rfl,rfl⟩) (λκ s0 hh=>?_) λJ J x=>x.elim)
 obtain ⟨rfl,rfl⟩:=hh
 have tree:=wp_run (c:=c) (cmp:=kas_ask prog w A (tuples' false) vs) (s:={ s with heap:=H }) (hc H keep) (Q:=λp s'=>p=runK c (kas_sort vs.length)/\s'={ s with heap:=H }) (kas_sort vs.length) (aj9 (ado h2)) ⟨rfl,rfl⟩
 refine wpAny_bind (wpAny_mono (kat_run (Q:=λF0 s'=>∃p:Array Nat,p.size=vs.length/\arrOf F0=p.map (kas_item (vs.toArray.zip vs.toArray))/\failedOf F0=none/\p=runK c (kas_sort vs.length)/\s'={ s with heap:=H })
  rfl h2 xR (λp' F0 s' a1 a2 a3 a4=>⟨p',a1,a2,a3,a4⟩) tree) ?_ λJ J e=>e)
 rintro ⟨⟨⟩,F0⟩ s' ⟨p,hp,har,hf,rfl,rfl⟩
 dsimp only
 have akb:=kat_snds rfl har
 have q8:(cK (vj c vs)).size=vs.length:=by rw [bM];unfold vj;rw [aC,ez,hp]
 rw [akb]
 show wpAny (model prog w) A _ P E { s with heap:=H }
 have s2:=d8 H a (bc λJ=>cK (vj c vs))
 obtain ⟨c2,hc2⟩:∃c2,(H.update a (bc λJ=>cK (vj c vs))).get? a=some (seqObj "list" (cK (vj c vs)) c2):=⟨_,get?_update_seq na λJ=>cK (vj c vs)⟩
 refine wpAny_bind (seqEpoch_at na rfl ?_)
 refine wpAny_bind (listUpdate_at na rfl ?_ (bx _) (ah (aq q8) (by rw [sizeLine_eq];exact adp xR)))
 rw [hf]
 simp only [bne_self_eq_false,gD,if_false]
 exact wpAny_pure (h _ c2 (λb o hb e=>(s2.2 b hb).trans (keep b o hb e)) hc2)
theorem akc{l:Addr}{vs:List Value}{c:Nat->Nat->Bool}{Q:Value->Shared->Prop}(hl:s.heap.IsList l vs.toArray)(h2:2<=vs.length)(xR:vs.length<64)
  (hk:∀h':Heap,(∀b o,s.heap.get? b=some o->h'.get? b=some o)->∀Q:SortKind->Shared->Prop,Q (tuples' false) { s with heap:=h' }->wpAny (model prog w) A.in1.in1 (keyKind' vs.toArray) Q (λJ J=>False) { s with heap:=h' })
  (hc:∀h':Heap,(∀b o,s.heap.get? b=some o->h'.get? b=some o)->∀i j,i<vs.length->j<vs.length->∀C:Bool->Shared->Prop,C (c i j) { s with heap:=h' }->kas_ask prog w A.in1.in1 (tuples' false) vs i j C { s with heap:=h' })
  (h:∀D h' e,s.heap.objs.size<=D->(∀b o,s.heap.get? b=some o->h'.get? b=some o)->h'.get? D=some (seqObj "list" (vj c vs).toArray e)->Q (.ref D) { s with heap:=h' }) :
  wpAny (model prog w) A (call (.builtin "sorted") [.ref l]) Q E s:=by
 refine Calls.call_function_entry kind_sorted plain_sorted entry_sorted (args_sorted1 _) ?_
 unfold Builtin.«sorted»
 refine wpAny_bind (m:=checkCount "sorted" 1 1 _) (wpAny_pure ?_)
 refine wpAny_bind (collect_list hl ?_ (by rw [sizeLine_eq];exact Eh xR))
 refine wpAny_bind (wpAny_newList ?_ (by rw [sizeLine_eq];exact Eh xR))
 have q8:((s.heap.push (seqObj "list" #[] 0)).update s.heap.objs.size (bc (·++vs.toArray))).objs.size=s.heap.objs.size+1:=by
  rw [Heap.size_update,size_push']
 have VD:(((s.heap.push (seqObj "list" #[] 0)).update s.heap.objs.size (bc (·++vs.toArray))).push (seqObj "list" vs.toArray 0)).get? (s.heap.objs.size+1)=some (seqObj "list" vs.toArray 0):=by
  rw [<-q8];exact bK _ rfl
 have keep:∀b o,s.heap.get? b=some o->(((s.heap.push (seqObj "list" #[] 0)).update s.heap.objs.size (bc (·++vs.toArray))).push (seqObj "list" vs.toArray 0)).get? b=some o:=λb o q=>by
  have qN:b<s.heap.objs.size:=cH q
  rw [Heap.get?_push_ne _ _ _ (by rw [q8];exact bI (fX qN)),Heap.get?_update_ne _ _ _ _ (bI qN),Heap.get?_push_ne _ _ _ (bI qN)]
  exact q
 show wpAny _ _ _ _ _ { s with heap:=((s.heap.push (seqObj "list" #[] 0)).update s.heap.objs.size (bc (·++vs.toArray))).push (seqObj "list" vs.toArray 0) }
 rw [q8]
 refine wpAny_bind (wpAny_holding (wpAny_call_entry slot_list_sort ⟨_,VD,rfl⟩ entry_list_sort ?body (args_list_sort _)))
 case body=>
  have up:∀h':Heap,(∀b o,b≠s.heap.objs.size+1->(((s.heap.push (seqObj "list" #[] 0)).update s.heap.objs.size (bc (·++vs.toArray))).push (seqObj "list" vs.toArray 0)).get? b=some o->h'.get? b=some o)->∀b o,s.heap.get? b=some o->h'.get? b=some o:=
   λh' k b o q=>k b o (bI (fX (cH q))) (keep b o q)
  refine aka (c:=c) (s:={ s with heap:=((s.heap.push (seqObj "list" #[] 0)).update s.heap.objs.size (bc (·++vs.toArray))).push (seqObj "list" vs.toArray 0) }) VD h2 xR (λh' k=>hk h' (up h' k)) (λh' k=>hc h' (up h' k)) λh' e k q=>⟨_,rfl,wpAny_pure ⟨_,rfl,h _ h' e (aW _) (up h' k) q⟩⟩
end
end
section
open PySem.SeqAt
noncomputable def pK(x y:Int×Int):Bool:=decide (x.1<y.1) || (decide (x.1=y.1) && decide (x.2<y.2))
theorem uC{x y:Int×Int}:pK x y=true↔x.1<y.1\/(x.1=y.1/\x.2<y.2):=by
 unfold pK
 rw [bC,aN,decide_eq_true_iff,decide_eq_true_iff,decide_eq_true_iff]
def qP(p:PV):Int×Int:=(keyOf p).getD (0,0)
theorem CW{p:PV}{a:Int×Int}(h:keyOf p=some a):qP p=a:=congrArg (λo:Option (Int×Int)=>o.getD (0,0)) h
theorem VF{α:Type}{o:Option α}{a:α}(h:o=some a):o.isSome=true:=h▸rfl
def vm(p q:PV):Prop:=pK (qP p) (qP q)=true
theorem lex_trans{x y z:Int×Int}(a:pK x y=true)(b:pK y z=true):pK x z=true:=uC.mpr (PL (uC.mp a) (uC.mp b))
theorem akd{x y:Int×Int}(a:pK x y=false)(b:(decide (x.1=y.1) && decide (x.2=y.2))=false):pK y x=true:=by
 unfold pK at a
 rw [iG,iX,decide_eq_false_iff_not,decide_eq_false_iff_not,decide_eq_false_iff_not] at a
 rw [iX,decide_eq_false_iff_not,decide_eq_false_iff_not] at b
 exact uC.mpr (PN a b)
theorem VG{p:PV}{r:List PV}:∀{r':List PV},B9 p r=some r'->r.Pairwise vm->r'.Perm (p::r)/\r'.Pairwise vm/\(r≠[]->(keyOf p).isSome=true/\∃q CX,r=q::CX/\(keyOf q).isSome=true):=by
 induction r with
|nil=>exact λh J=>ai h▸⟨.refl _,List.pairwise_singleton _ _,λe=>absurd rfl e⟩
|cons q r ih=>
  refine λh pw=>jz h λa hp h=>jz h λc hq h=>?_
  have sm:q::r≠[]->(keyOf p).isSome=true/\∃q' CX,q::r=q'::CX/\(keyOf q').isSome=true:=λJ=>⟨VF hp,q,r,rfl,VF hq⟩
  have pr:=c5.mp pw
  have L:pK (qP p) (qP q)=pK a c:=by rw [CW hp,CW hq]
  refine mY h (λq1 h=>?_) λq1 h=>mY h (λJ h=>xn h) λq2 h=>jH h λCX h2 e=>?_
  ·rw [<-ai h]
   have pq:vm p q:=L.trans q1
   refine ⟨.refl _,c5.mpr ⟨λx hx=>(aB.mp hx).elim (λe=>e▸pq) λe=>lex_trans pq (pr.1 x e),pw⟩,sm⟩
  ·rw [<-e]
   have i:=ih h2 pr.2
   have qp:vm q p:=by
    unfold vm
    rw [CW hp,CW hq]
    exact akd q1 q2
   refine ⟨(i.1.cons q).trans (.swap ..),c5.mpr ⟨λx hx=>(aB.mp (i.1.mem_iff.mp hx)).elim (λe=>e▸qp) λe=>pr.1 x e,i.2.1⟩,sm⟩
theorem Ly{l:List PV}:∀{l':List PV},xA l=some l'->l'.Perm l/\l'.Pairwise vm:=by
 induction l with
|nil=>exact λh=>ai h▸⟨.refl _,.nil⟩
|cons p r ih=>exact λh=>jz h λr' h1 h2=>have a:=ih h1;have b:=VG h2 a.2;⟨b.1.trans (a.1.cons p),b.2.1⟩
theorem ake{l:List PV}:∀{l':List PV},xA l=some l'->2<=l.length->∀p∈l,(keyOf p).isSome=true:=by
 induction l with
|nil=>exact λJ h=>absurd h (gu 1)
|cons p r ih=>
  refine λh h2=>jz h λr' h1 h3=>?_
  have pm:=(Ly h1).1
  have ne:r'≠[]:=λe=>bI (eH h2) (by rw [<-pm.length_eq,e];rfl)
  refine λx hx=>((VG h3 (Ly h1).2).2.2 ne).elim λkp z=>z.elim λq z=>z.elim λCX z=>(aB.mp hx).elim (λe=>e▸kp) λe=>?_
  match r,h1,e,pm with
 |[y],_,e,pm=>
   have:=(pm.mem_iff (a:=q)).mp (z.1▸bL)
   rw [aJ.mp e,<-aJ.mp this]
   exact z.2
 |y::y'::r,h1,e,_=>exact ih h1 (aL (aL (bx _))) x e
theorem akf{p:PV}(h:(keyOf p).isSome=true):∃a b x s,p=.tup [.tup [.int a,.int b,.bool x],.str s]/\qP p=(a,b):=(cz.mp h).elim λy hy=>by
 refine jz (o:=gT p) hy λl h1 h=>jz h λq h2 h=>jz h λs h3 h=>jz h λl2 h4 h=>?_
 have sh:∀{l:List PV},(match l with|[a,b,.bool _]=>(gI a).bind λx=>(gI b).map λy=>(x,y)|_=>none)=some y->∃a b x,l=[.int a,.int b,.bool x]/\y=(a,b):=by
  exact λ{l} h=>match l,h with
 |[],h=>xn h
 |[_],h=>xn h
 |[_,_],h=>xn h
 |_::_::c::_::_,h=>by cases c<;>exact xn h
 |[a,b,c],h=>by
   cases c with
  |bool x=>exact jz h λa' ha h=>jH h λb' hb e=>⟨a',b',x,by rw [v9 ha,v9 hb],e.symm⟩
  |_=>exact xn h
 obtain ⟨a,b,x,e,e2⟩:=sh (l:=l2) h
 exact ⟨a,b,x,s,by rw [Ch h1,Rk h2,Ch h4,wc h3,e],(CW hy).trans e2⟩
end
section
open PySem.SeqAt
def Pt(h:Heap)(v:Value)(y:Int×Int):Prop:=∃t n k m ta tb x s ts,v=.ref t/\h.get? t=some (tX [.ref k,.str s ts] n)/\h.get? k=some (tX [.int y.1 ta,.int y.2 tb,.bool x] m)
theorem akg{w:World}{X:Em}{h:Heap}(B:Base w X η h){v:Value}{p:PV}(hk:(keyOf p).isSome=true)(r:VR X v p):Pt h v (qP p):=by
 obtain ⟨a,b,x,s,e,e2⟩:=akf hk
 rw [e2]
 rw [e] at r
 refine vU r λt vs n h1 r1=>?_
 revert h1
 refine m8 r1 λv1 us r2 r3=>m8 r3 λv2 us r4 r5=>o7 r5 (vU r2 λk ws m h2 q1=>?_)
 revert h2
 exact m8 q1 λw1 J q2 q3=>m8 q3 λw2 J q4 q5=>m8 q5 λw3 J q6 q7=>o7 q7 (vI q2 λta=>vI q4 λtb=>vB q6 (vS r4 λts h2 h1=>⟨t,n,k,m,ta,tb,x,s,ts,rfl,B.fz h1,B.fz h2⟩))
theorem VH{s:Shared}(a b:Int)(t u:Tok):Ls A s (.int a t) (.int b u) (decide (a<b)):=λprog w E Q h=>PyProof.Rows.lt_int h
theorem akh{s:Shared}(a b:Bool):Ls A s (.bool a) (.bool b) (decide (b2i a<b2i b)):=λprog w E Q h=>PyProof.Rows.lt_bool h
section
variable{w:World}{s:Shared}
theorem aki{v u:Value}{y z:Int×Int}{C:Bool->Shared->Prop}(hu:A.units+2<cLine)(p:Pt s.heap v y)(q:Pt s.heap u z)(hd:v=u\/y≠z)(he:v=u->y=z)(h:C (pK y z) s):wpAny (model prog w) A (keyLt' (tuples' false) v u) C (λJ J=>False) s:=by
 refine zO (p) λt n k m ta tb x s1 ts Lz h1 h2=>?_
 obtain rfl:=Lz
 refine zO (q) λt' n' k' m' xS xT x' s2 VJ LB g1 g2=>?_
 obtain rfl:=LB
 refine kat_lt h1 rfl g1 rfl ?_
 show KatLex prog w A false _ C [(.ref k,.ref k'),(.str s1 ts,.str s2 VJ)] 0 s
 rcases hd with e|ne
 ·have hyz:=he e
  subst hyz
  have et:t=t':=cJ e
  subst et
  rw [h1] at g1
  cases g1
  refine kat_cons (EqAt.same (A:=A) (s:=s) _ prog w _ _ (kat_yes (kat_cons (EqAt.same (A:=A) (s:=s) _ prog w _ _ (kat_yes (kat_nil ?_))))))
  have:pK y y=decide ((#[eu k,Value.str s1 ts]:Array Value).size<(#[eu k,Value.str s1 ts]:Array Value).size):=by
   unfold pK;simp
  rw [<-this];exact h
 ·have mQ:k≠k':=λe=>by
   subst e
   rw [h2] at g2
   injection g2 with g2
   injection g2 with _ _ g3 _
   injection g3 with g3 _
   have LC:=congrArg fY g3
   simp at LC
   exact ne (dR LC.1.1 LC.2.1.1)
  let e:Nat->Bool:=λj=>match j with|0=>y.1 == z.1|1=>y.2 == z.2|_=>x == x'
  let r:Nat->Bool:=λj=>match j with|0=>decide (y.1<z.1)|1=>decide (y.2<z.2)|_=>decide (b2i x<b2i x')
  have heq:∀(A:Around) j (i1:j<(#[Value.int y.1 ta,.int y.2 tb,.bool x]:Array Value).size) (i2:j<(#[Value.int z.1 xS,.int z.2 xT,.bool x']:Array Value).size),EqAt A s (#[Value.int y.1 ta,.int y.2 tb,.bool x]:Array Value)[j] (#[Value.int z.1 xS,.int z.2 xT,.bool x']:Array Value)[j] (e j):=λA j i1 i2=>by
   match j,i1,i2 with
  |0,_,_=>exact EqAt.int_int _ _ _ _
  |1,_,_=>exact EqAt.int_int _ _ _ _
  |2,_,_=>exact EqAt.bool_bool _ _
  |j+3,i1,_=>exact absurd i1 (by simp)
  have L1:s.heap.IsTuple k #[.int y.1 ta,.int y.2 tb,.bool x]:=⟨_,h2,rfl,_,rfl⟩
  have L2:s.heap.IsTuple k' #[.int z.1 xS,.int z.2 xT,.bool x']:=⟨_,g2,rfl,_,rfl⟩
  have VK:=EqAt.of_refs mQ (RcAt.tuples (A:=A) (e:=e) L1 L2 (Pa hu) (heq A.in1))
  have val:((aX (min (#[Value.int y.1 ta,.int y.2 tb,.bool x]:Array Value).size (#[Value.int z.1 xS,.int z.2 xT,.bool x']:Array Value).size)).all e && (#[Value.int y.1 ta,.int y.2 tb,.bool x]:Array Value).size == (#[Value.int z.1 xS,.int z.2 xT,.bool x']:Array Value).size)=false:=by
   have:((aX 3).all e)=false:=by
    show (e 0 && (e 1 && (e 2 && true)))=false
    induction q0:e 0 using Bool.casesOn with
   |false=>rfl
   |true=>
     induction q1:e 1 using Bool.casesOn with
    |false=>rfl
    |true=>exact absurd (dR (beq_iff_eq.mp q0) (beq_iff_eq.mp q1)) ne
   show ((aX 3).all e && true)=false
   rw [this];rfl
  rw [val] at VK
  refine kat_cons (VK prog w _ _ (kat_no ?_))
  show wpAny (model prog w) A (oneLt' false (.ref k) (.ref k')) C _ s
  refine kat_one _ _ ?_
  show wpAny (model prog w) A (richCompare .Lt (.ref k) (.ref k')) (PySem.W.BoolBack C) _ s
  refine richCompare_meets_room (op:=.Lt) ⟨_,h2,rfl⟩ ⟨_,g2,rfl⟩ PySem.F.slot_tuple_lt PySem.F.entry_tuple_lt (PySem.F.args_tuple_lt_2 _ _) (aj7 k k' _ _ _ _ _ _ _ _ e r)
   ⟨h2,g2,heq A.in1,λj i1 i2 J=>?_,?_⟩ (Pa hu)
  ·match j,i1,i2 with
  |0,_,_=>exact VH _ _ _ _
  |1,_,_=>exact VH _ _ _ _
  |2,_,_=>exact akh _ _
  |j+3,i1,_=>exact absurd i1 (by simp)
  ·have res:Ay e r (decide ((#[Value.int y.1 ta,.int y.2 tb,.bool x]:Array Value).size<(#[Value.int z.1 xS,.int z.2 xT,.bool x']:Array Value).size)) (aX (min (#[Value.int y.1 ta,.int y.2 tb,.bool x]:Array Value).size (#[Value.int z.1 xS,.int z.2 xT,.bool x']:Array Value).size))=pK y z:=by
    show (if e 0=true then (if e 1=true then (if e 2=true then decide (3<3) else r 2) else r 1) else r 0)=_
    induction q0:e 0 using Bool.casesOn with
   |false=>
     rw [if_neg (dc rfl)]
     have:¬ y.1=z.1:=beq_eq_false_iff_ne.mp q0
     show decide (y.1<z.1)=_
     unfold pK
     simp [this]
   |true=>
     have e0:y.1=z.1:=beq_iff_eq.mp q0
     rw [if_pos rfl]
     induction q1:e 1 using Bool.casesOn with
    |false=>
      rw [if_neg (dc rfl)]
      show decide (y.2<z.2)=_
      unfold pK
      simp [e0]
    |true=>exact absurd (dR e0 (beq_iff_eq.mp q1)) ne
   rw [res]
   exact ⟨λx=>(nomatch x),h⟩
end
end
section
open PySem.SeqAt
theorem kat_tups{h:Heap}:∀{vs:List Value} {ks:List (Int×Int)},vs.length=ks.length->(∀(i:Nat) (v:Value) (y:Int×Int),vs[i]?=some v->ks[i]?=some y->Pt h v y)->∃fs,KatTups h vs fs/\fs.length=vs.length/\∀f∈fs,∃k o,f=.ref k/\h.get? k=some o/\o.cls=.type "tuple"
|[],[],_,_=>⟨[],KatTups.nil,rfl,λf hf=>by simp at hf⟩
|v::vs,y::ks,hl,hp=>by
  refine vV (kat_tups (h:=h) (vs:=vs) (ks:=ks) (dQ hl) λi v y e1 e2=>hp (i+1) v y (by simpa using e1) (by simpa using e2)) λfs a b c=>?_
  refine zO (hp 0 v y rfl rfl) λt n k m ta tb x s ts lX h1 h2=>?_
  obtain rfl:=lX
  refine ⟨.ref k::fs,KatTups.cons h1 rfl rfl rfl a,congrArg (·+1) b,λf hf=>?_⟩
  rcases aB.mp hf with e|e
  ·exact yx k _ e h2 rfl
  ·exact c f e
|[],_::_,hl,_=>by cases hl
|_::_,[],hl,_=>by cases hl
theorem akj(w:World):Cw w:=by
 intro A X η s l l' a vs m hh hu k1 rs h2 h60 hs B E Q kk
 have hlen:=rs.length
 have wD:2<=l.length:=b5 h2
 have akk:l.length<=60:=b5 h60
 have keys:=ake hs wD
 refine jP (Ly hs) λpm pw=>?_
 have nd:(l.map qP).Nodup:=by
  have h1:(l'.map qP).Nodup:=by
   rw [List.nodup_iff_pairwise_ne,fE]
   exact pw.imp λ{p q} h e=>by
    unfold vm at h
    rw [e,uC] at h
    exact aec h
  exact (pm.map qP).nodup_iff.mp h1
 let key:Nat->Int×Int:=λi=>qP (l.getD i .none)
 let c:Nat->Nat->Bool:=λi j=>pK (key i) (key j)
 have VL:∀{i:Nat} {p:PV},l[i]?=some p->key i=qP p:=λ{i p} e=>by
  show qP (l.getD i .none)=_
  rw [dU,e];rfl
 have LG:∀i,i<l.length->(l.map qP)[i]?=some (key i):=λi hi=>by
  rw [cQ,aR hi]
  exact congrArg some (VL (aR hi)).symm
 have key_ne:∀i j,i<l.length->j<l.length->i≠j->key i≠key j:=λi j hi hj ne e=>by
  have h1:=LG i hi
  have h2:=LG j hj
  rw [e] at h1
  exact ne ((List.getElem?_inj (by rw [aC];exact hi) nd).mp (h1.trans h2.symm))
 have O:Ord c l.length:=⟨λi j k J J J a b=>by
   have a':=uC.mp a
   have b':=uC.mp b
   exact uC.mpr (PL a' b'),λi j hi hj ne q=>by
   have h1:=key_ne i j hi hj ne
   have h3:¬ ((key i).1<(key j).1\/((key i).1=(key j).1/\(key i).2<(key j).2)):=λz=>by
    have:=uC.mpr z
    have q':pK (key i) (key j)=false:=q
    rw [this] at q';cases q'
   refine uC.mpr ?_
   by_cases e:(key i).1=(key j).1
   ·by_cases e2:(key i).2=(key j).2
    ·exact absurd (dR e e2) h1
    ·exact aed h3 e2
   ·exact aee h3 e⟩
 have LH:∀h':Heap,(∀b o,s.heap.get? b=some o->h'.get? b=some o)->∀i v,vs[i]?=some v->Pt h' v (key i):=λh' up i v e=>by
  have hi:i<vs.length:=(cY.mp e).1
  have LJ:i<l.length:=Ei hlen hi
  refine jZ (rs.get (aR LJ)) λv' e1 LK=>?_
  rw [e] at e1;cases e1
  have hk:=keys l[i] (dm LJ)
  have:=akg B hk LK
  rw [<-VL (aR LJ)] at this
  refine zO (this) λt n k m ta tb x s1 ts q1 q2 q3=>?_
  exact ae4 t n k m ta tb x s1 ts q1 (up _ _ q2) (up _ _ q3)
 have VM:∀i,i<vs.length->vs[i]?=some (vs.getD i dj):=λi hi=>by
  rw [dU,aR hi];rfl
 have hL:s.heap.IsList a vs.toArray:=⟨_,k1,rfl,_,rfl⟩
 refine akc (c:=c) hL (aef hlen wD) (aeg hlen akk) (λh' up Q hq=>?_) (λh' up i j hi hj C hC=>?_) (λD h' e hD up LM=>?_)
 ·obtain ⟨fs,t1,t2,t3⟩:=kat_tups (h:=h') (vs:=vs) (ks:=l.map qP) (by rw [aC];exact hlen) λi v y e1 e2=>by
   have hi:i<vs.length:=(cY.mp e1).1
   have:y=key i:=by
    have:=LG i (Ei hlen hi)
    rw [e2] at this
    exact ai this
   rw [this];exact LH h' up i v e1
  refine kat_kind (s:={ s with heap:=h' }) (T:=.type "tuple") t1 (aeh hlen wD t2) (λf hf=>?_) (dc rfl) hq
  refine Er (t3 f hf) λk o wF e1 e2=>?_
  obtain rfl:=wF
  exact e2▸(Looks.ld e1).andThen .now
 ·have pi:=LH h' up i _ (VM i hi)
  have pj:=LH h' up j _ (VM j hj)
  unfold kas_ask
  refine aki (s:={ s with heap:=h' }) (by show A.units+1+1+2<cLine;unfold cLine;exact aei hu) pi pj ?_ ?_ hC
  ·by_cases e:i=j
   ·subst e;exact .inl rfl
   ·exact .inr (key_ne i j (Ei hlen hi) (Ei hlen hj) e)
  ·intro e
   rw [e] at pi
   refine zO (pi) λt n k m ta tb x s1 ts q1 q2 q3=>?_
   refine zO (pj) λt' n' k' m' xS xT x' s1' VJ VN VP Ga=>?_
   rw [q1] at VN
   cases VN
   rw [q2] at VP
   cases VP
   rw [q3] at Ga
   injection Ga with Ga
   injection Ga with _ _ q4 _
   injection q4 with q4 _
   have q5:=congrArg fY q4
   simp at q5
   exact dR q5.1.1 q5.2.1.1
 ·have N0:vs.length=l.length:=hlen
  refine jP (aj6 O wD) λP asc=>?_
  have akl:vj c vs=(runK c (kas_sort l.length)).toList.map λi=>vs.getD i dj:=by unfold vj;rw [N0]
  generalize hq:runK c (kas_sort l.length)=q at *
  have akm:∀i∈q.toList,i<l.length:=λi hi=>List.mem_range.mp ((P.pm.mem_iff).mp hi)
  have out:jI X (q.toList.map λi=>vs.getD i dj) (q.toList.map λi=>l.getD i .none):=by
   have:∀(is:List Nat),(∀i∈is,i<l.length)->jI X (is.map λi=>vs.getD i dj) (is.map λi=>l.getD i .none):=by
    intro is
    induction is with
   |nil=>intro _;exact .nil
   |cons i is ih=>
     intro h
     refine .cons ?_ (ih λj hj=>h j (bu _ hj))
     have hi:=h i (bL ..)
     refine jZ (rs.get (aR hi)) λv' e1 LK=>?_
     have e2:vs.getD i dj=v':=by rw [dU,e1];rfl
     have e3:l.getD i .none=l[i]:=by rw [dU,aR hi];rfl
     show VR X (vs.getD i dj) (l.getD i .none)
     rw [e2,e3];exact LK
   exact this _ akm
  have perm:(q.toList.map λi=>l.getD i .none).Perm l:=by
   have e:(aX l.length).map (λi=>l.getD i PV.none)=l:=by
    apply List.ext_getElem?
    intro i
    rw [cQ]
    by_cases hi:i<l.length
    ·rw [gE hi,aR hi]
     show some (l.getD i .none)=_
     rw [dU,aR hi];rfl
    ·rw [cy (by simpa using hi),cy (aej hi)];rfl
   have:=P.pm.map (λi=>l.getD i PV.none)
   rwa [e] at this
  have pwq:(q.toList.map λi=>l.getD i .none).Pairwise vm:=by
   rw [fE,List.pairwise_iff_getElem]
   intro i j hi hj qM
   have li:i<q.size:=by rw [<-ez];exact hi
   have lj:j<q.size:=by rw [<-ez];exact hj
   have h3:=asc i j qM (by rw [<-P.sz];exact lj)
   have e1:j0 q i=q.toList[i]:=by
    have:=zb li
    rw [d9 li] at this
    have e:=(ai this).symm
    rw [e];simp
   have e2:j0 q j=q.toList[j]:=by
    have:=zb lj
    rw [d9 lj] at this
    have e:=(ai this).symm
    rw [e];simp
   rw [e1,e2] at h3
   exact h3
  have eq:(q.toList.map λi=>l.getD i .none)=l':=
   List.Perm.eq_of_pairwise (le:=vm) (λa b J J h1 h2=>by
    unfold vm at h1 h2
    rw [uC] at h1 h2
    omega) pwq pw (perm.trans pm.symm)
  rw [akl] at LM
  rw [eq] at out
  exact kk (made (s₁:={ s with heap:=h' }) (t:=s.toks) (d:=none) (e:=none) (.grow up rfl rfl) (B.move λJ=>up _ _) (λ{c} z=>z.elim (λz=>z▸⟨bJ hD,B.off hD,_,LM⟩) λz=>xn z) (λz=>xn z) (λJ h=>h) (λz=>xn z) ⟨_,e,LM,out.mono (B.move λJ=>up _ _).zS⟩)
end
theorem VQ{X:Em}:∀{vs:List Value} {ns:List Int},IntsAre vs ns->jI X vs (ns.map .int)
|_,_,.nil=>.nil
|_,_,.cons n t r=>.cons (.int n t) (VQ r)
theorem room:uX callerA 349:=⟨rfl,by decide,by decide⟩
theorem akn{i:Nat}{o:AO}(e:(⟨[],[]⟩:AH).get r i=some o):False:=by
 unfold AH.get at e
 split at e<;>exact xn e
theorem ako{w:World}{h:Heap}(Y:∀a o,(objs w.params)[a]?=some o->h.get? a=some o):Base w ⟨λa=>h.get? a,λJ J J=>none,λJ J J=>none⟩ ⟨[],[]⟩ h:=
 ⟨id,Y _ _,λe=>(akn e).elim,λq=>xn q,λq=>xn q,λq=>xn q,λq=>xn q⟩
theorem walk{w:World}{s:Shared}{l:Addr}{vs:List Value}{ns:List Int}(S:Cw w)(Y:∀a o,(objs w.params)[a]?=some o->s.heap.get? a=some o)(hg:s.gens=#[])(hl:s.heap.IsList l vs.toArray)(hi:IntsAre vs ns)
  (h:jw 349 (.st (.ref 1172)) [.fl (ns.map .int)] ⟨[],[]⟩ λv J=>v=.bool true) :
  wpAny (model pw w) callerA (PySem.call (.ref 1172) [.ref l]) (λv s'=>v=.bool true/\(∀b o,s.heap.get? b=some o->s'.heap.get? b=some o)/\s'.os=s.os/\s'.gens=#[]) (λJ J=>False) s:=by
 obtain ⟨o,ho,hc,n,hd⟩:=hl
 exact h (good w S) (ako Y) (.st (dc rfl)) (.cons (.fl ho hc hd (VQ hi)) .nil) room λ{v s' Z p jt} E B' r q=>⟨vB (v:=v) (q▸r) rfl,λb o e=>B'.fz (E.le.fz e),E.os,E.gens.trans hg⟩
set_option backward.match.sparseCases true
def qe(w:World)(os:OsState):Shared:=(pD (Jc w.params) 1173 2017 os).abs
theorem chain{w:World}{n N a k:Nat}{s s':SharedT}{r:Shared}{p p':Pos}(h:segRunT treeTable pw w 11 ann 1 n s (piecesOf (grp a k) env cd p bot)=some (.next,s',cd,p'))
  (k':topRun treeTable pw w 11 ann N s'.abs (restOf (top.drop (a+k)) env cd p' bot)=some r):topRun treeTable pw w 11 ann (n+N) s.abs (restOf (top.drop a) env cd p bot)=some r:=by
 have:=piece_app (q:=⟨0,0,0,0⟩) (segRun_of h) k'
 rw [ae5] at this
 exact this
noncomputable def LN:Nat:=2
theorem r83(w:World)(os:OsState):topRun treeTable pw w 11 ann LN (pD (Jc w.params) 1173 2017 os).abs (restOf (top.drop 83) env cd ⟨821,0,838,15⟩ bot)=some (qe w os):=by kernel_rfl
def LP:Nat:=536+LN
theorem r64(w:World)(os:OsState):topRun treeTable pw w 11 ann LP (pD (Jb w.params) 1059 1873 os).abs (restOf (top.drop 64) env cd ⟨461,0,673,17⟩ bot)=some (qe w os):=
 chain (n:=536) (N:=LN) (a:=64) (k:=19) (g64 w os) (r83 w os)
def LQ:Nat:=1456+LP
theorem r63(w:World)(os:OsState):topRun treeTable pw w 11 ann LQ (pD (Ja w.params) 779 1499 os).abs (restOf (top.drop 63) env cd ⟨460,0,460,6⟩ bot)=some (qe w os):=
 chain (n:=1456) (N:=LP) (a:=63) (k:=1) (g63 w os) (r64 w os)
def LR:Nat:=16+LQ
theorem r62(w:World)(os:OsState):topRun treeTable pw w 11 ann LR (pD (zQ w.params) 778 1493 os).abs (restOf (top.drop 62) env cd ⟨459,0,459,5⟩ bot)=some (qe w os):=
 chain (n:=16) (N:=LQ) (a:=62) (k:=1) (g62 w os) (r63 w os)
def LV:Nat:=130+LR
theorem r61(w:World)(os:OsState):topRun treeTable pw w 11 ann LV (pD (vW w.params) 770 1471 os).abs (restOf (top.drop 61) env cd ⟨458,0,458,8⟩ bot)=some (qe w os):=
 chain (n:=130) (N:=LR) (a:=61) (k:=1) (g61 w os) (r62 w os)
def LW:Nat:=759+LV
theorem r60(w:World)(os:OsState):topRun treeTable pw w 11 ann LW (pD (zP w.params) 767 1354 os).abs (restOf (top.drop 60) env cd ⟨457,0,457,7⟩ bot)=some (qe w os):=
 chain (n:=759) (N:=LV) (a:=60) (k:=1) (g60 w os) (r61 w os)
def LY:Nat:=66+LW
theorem r56(w:World)(os:OsState):topRun treeTable pw w 11 ann LY (pD (IZ w.params) 759 1334 os).abs (restOf (top.drop 56) env cd ⟨402,0,445,17⟩ bot)=some (qe w os):=
 chain (n:=66) (N:=LW) (a:=56) (k:=4) (g56 w os) (r60 w os)
def LZ:Nat:=589+LY
theorem r55(w:World)(os:OsState):topRun treeTable pw w 11 ann LZ (pD (IY w.params) 660 1204 os).abs (restOf (top.drop 55) env cd ⟨392,0,401,24⟩ bot)=some (qe w os):=
 chain (n:=589) (N:=LY) (a:=55) (k:=1) (g55 w os) (r56 w os)
def L0:Nat:=1291+LZ
theorem r48(w:World)(os:OsState):topRun treeTable pw w 11 ann L0 (pD (IX w.params) 527 1008 os).abs (restOf (top.drop 48) env cd ⟨345,0,345,8⟩ bot)=some (qe w os):=
 chain (n:=1291) (N:=LZ) (a:=48) (k:=7) (g48 w os) (r55 w os)
def L5:Nat:=626+L0
theorem r43(w:World)(os:OsState):topRun treeTable pw w 11 ann L5 (pD (IW w.params) 456 878 os).abs (restOf (top.drop 43) env cd ⟨281,0,297,16⟩ bot)=some (qe w os):=
 chain (n:=626) (N:=L0) (a:=43) (k:=5) (g43 w os) (r48 w os)
def L6:Nat:=700+L5
theorem r28(w:World)(os:OsState):topRun treeTable pw w 11 ann L6 (pD (IV w.params) 336 690 os).abs (restOf (top.drop 28) env cd ⟨207,0,208,8⟩ bot)=some (qe w os):=
 chain (n:=700) (N:=L5) (a:=28) (k:=15) (g28 w os) (r43 w os)
def L7:Nat:=826+L6
theorem r13(w:World)(os:OsState):topRun treeTable pw w 11 ann L7 (pD (IU w.params) 229 521 os).abs (restOf (top.drop 13) env cd ⟨80,0,97,40⟩ bot)=some (qe w os):=
 chain (n:=826) (N:=L6) (a:=13) (k:=15) (g13 w os) (r28 w os)
def N9:Nat:=1059+L7
theorem r9(w:World)(os:OsState):topRun treeTable pw w 11 ann N9 (pD (IQ w.params) 141 373 os).abs (restOf (top.drop 9) env cd ⟨46,0,52,27⟩ bot)=some (qe w os):=
 chain (n:=1059) (N:=L7) (a:=9) (k:=4) (g9 w os) (r13 w os)
def N5:Nat:=1092+N9
theorem r5(w:World)(os:OsState):topRun treeTable pw w 11 ann N5 (pD (IL w.params) 43 235 os).abs (restOf (top.drop 5) env cd ⟨7,0,15,25⟩ bot)=some (qe w os):=
 chain (n:=1092) (N:=N9) (a:=5) (k:=4) (g5 w os) (r9 w os)
def N0:Nat:=285+N5
theorem r0(w:World)(os:OsState):topRun treeTable pw w 11 ann N0 (pD (IK w.params) 15 187 os).abs (restOf (top.drop 0) env cd ⟨0,0,0,0⟩ bot)=some (qe w os):=
 chain (n:=285) (N:=N5) (a:=0) (k:=5) (g0 w os) (r5 w os)
def VS(P:Params):Heap:=⟨(pre P).toArray,{}⟩
theorem akp(w:World)(os:OsState):topGo treeTable pw w 11 ann 12 ⟨boot_heap w.params,#[],boot_drawn,boot_toks,os⟩ (topStub pw)=some (⟨VS w.params,#[],{},187,os⟩,⟨denote treeTable cd,cd,⟨0,0,0,0⟩,bot⟩):=by kernel_rfl
theorem blk(w:World)(os:OsState):segRun treeTable pw w 11 ann 1 1 ⟨VS w.params,#[],{},187,os⟩ (blockOf top env cd ⟨0,0,0,0⟩ bot)=some (.next,(pD (IK w.params) 15 187 os).abs,cd,⟨0,0,0,0⟩):=by kernel_rfl
theorem akq(w:World)(os:OsState):topRun treeTable pw w 11 ann (12+(1+N0)) ⟨boot_heap w.params,#[],boot_drawn,boot_toks,os⟩ (topStub pw)=some (qe w os):=
 go_top (n:=12) (N:=1+N0) (akp w os) (piece_block (n:=1) (N:=N0) (blk w os) (r0 w os))
def H1(P:Params):Heap:=⟨(objs P).toArray,{}⟩
theorem akr(w:World)(os:OsState):qe w os=⟨H1 w.params,#[],{},2017,os⟩:=by kernel_rfl
def vw:Program:=PySem.W.view pw [82]
noncomputable def loose:List Str:=[ao "_wall",ao "DEEPEST_KEY",ao "MOST_SEEN",ao "Thing",ao "Text",ao "ListThing",ao "TableThing",ao "RangeThing",ao "ProcThing",ao "ErrorThing",ao "FiberThing",ao "ModuleThing",ao "Entry",ao "sort_of",ao "same",ao "takes_in",ao "code_of",ao "full_name",ao "has_thing",ao "own_line",ao "numbered",ao "made_line",ao "line_of",ao "PRIVATE_NAMES",ao "PRIVATE_KERNEL",ao "GivenEntry",ao "sight_of",ao "given_entry",ao "entry_at",ao "first_entry",ao "find",ao "raise_version",ao "own_module",ao "class_above",ao "make_own",ao "copied",ao "is_a",ao "respond",ao "may_send",ao "Call",ao "Frame",ao "Sent",ao "is_hidden",ao "GemError",ao "Raised",ao "give_cause",ao "Way",ao "Env",ao "Task",ao "Walker",ao "refusal",ao "MODULES",ao "BUILTINS",ao "MIXED",ao "UNMADE",ao "World",ao "_law_above",ao "_law_within",ao "_law_counted",ao "_law_who",ao "_law_heads",ao "_law_senders",ao "_law_well",ao "_law_draw",ao "_law_single",ao "_law_mixed",ao "_law_entries",ao "_law_books",ao "_law_made",ao "_law_circle",ao "_law_line",ao "_law_found",ao "_law_agreed"]
noncomputable abbrev lw:OpenLaw:=PySem.Challenge.rw_sm0034_01
theorem lT{a b:Bool}(h:a=true)(k:b=true):(a && b)=true:=by subst h;exact k
theorem sd1:Fast.tw11788848310118352699 lw.prog.main=true:=by kernel_rfl
theorem sd3:Fast.tw8377067652309620493 lw.prog=true:=by kernel_rfl
theorem sd4:(R.allR (Fast.tw18344453789297297638 lw.prog) λn=>!gF Fast.tw14412699480532031325 n)=true:=by kernel_rfl
theorem L8{f:α->Bool}{a l}(h:f a=false)(k:eB f l=[]):eB f (a::l)=[]:=by
 show @Bool.rec (λJ=>List α) (eB f l) (a::eB f l) (f a)=[]
 rw [h];exact k
theorem rsA:fF lw.prog lw.prog.main.body ⟨⟨[118,97,114,115]⟩⟩=false:=by kernel_rfl
theorem rsB:fF lw.prog lw.prog.main.body ⟨⟨[100,105,114]⟩⟩=false:=by kernel_rfl
theorem rsC:fF lw.prog lw.prog.main.body ⟨⟨[108,111,99,97,108,115]⟩⟩=false:=by kernel_rfl
theorem sd0:iY { strict:=!R.allR (iZ lw.prog.main.body) (gF ja),foot:=none,bare:=[] } lw.prog.main.body=true:=by kernel_rfl
theorem sd5:iY { strict:=!R.allR (iZ lw.prog.main.body) (gF ja),foot:=none,bare:=eB (fF lw.prog lw.prog.main.body) [⟨⟨[118,97,114,115]⟩⟩,⟨⟨[100,105,114]⟩⟩,⟨⟨[108,111,99,97,108,115]⟩⟩] } lw.prog.main.body=true:=by
 rw [L8 rsA (L8 rsB (L8 rsC rfl))];exact sd0
theorem sd6:(Fast.tw17119622794617984870 lw.prog lw.prog.main.body λJ n=>Fast.tw17868728402115742887 n)=true:=by kernel_rfl
theorem sdo:Fast.tw12908688711261696721 lw.prog=true:=lT (lT (lT (lT (lT sd1 (by kernel_rfl)) sd3) sd4) sd5) sd6
theorem sdp:Fast.tw2436336058641802641 (jb lw)=true:=lT (lT (lT (lT (lT (lT (lT (lT (lT (lT (lT (lT (lT sdo (by kernel_rfl)) (by kernel_rfl)) (by kernel_rfl)) (by kernel_rfl)) (by kernel_rfl)) (by kernel_rfl)) (by kernel_rfl)) (by kernel_rfl)) (by kernel_rfl)) (by kernel_rfl)) (by kernel_rfl)) (by kernel_rfl)) (by kernel_rfl)
theorem sdr:Fast.tw17960256430627541270 (jb lw)=true:=lT (lT sdp (by kernel_rfl)) (by kernel_rfl)
theorem said:lw.wellSaid=true:=by
 rw [Fast.te9446332074065402090]
 exact lT (lT (lT (lT (lT (lT (lT (lT (lT (lT (lT (lT (lT (lT (lT (lT (lT (lT sdr (by kernel_rfl)) (by kernel_rfl)) (by kernel_rfl)) (by kernel_rfl)) (by kernel_rfl)) (by kernel_rfl)) (by kernel_rfl)) (by kernel_rfl)) (by kernel_rfl)) (by kernel_rfl)) (by kernel_rfl)) (by kernel_rfl)) (by kernel_rfl)) (by kernel_rfl)) (by kernel_rfl)) (by kernel_rfl)) (by kernel_rfl)) (by kernel_rfl)
theorem opn(w:World):(fencedOpening treeTable pw w 20000).map (λs=>(s.heap,s.gens,s.drawn,s.toks))=some (boot_heap w.params,#[],boot_drawn,boot_toks):=
 boot_open (p:=pw) (N:=20000) (by kernel_rfl) (by kernel_rfl) (λs=>by kernel_rfl) w
theorem sz(w:World):((boot_heap w.params).isNs mainGlobals && (#[]:Array GenState).size == 0,(boot_heap w.params).objs.size,(boot_heap w.params).nsMap mainGlobals "__annotations__")=(true,11,ann):=by kernel_rfl
def known(P:Params):List (Addr×Obj):=(aX 1173).zip (objs P)
def YP(w:World)(h:Heap):Prop:=∀a o,(objs w.params)[a]?=some o->h.get? a=some o
theorem aks(w:World)(os:OsState):(staticsOk (importedModules pw.main.body) (boot_heap w.params) (H1 w.params) && namesBound pw (H1 w.params) && gensDone ⟨H1 w.params,#[],{},2017,os⟩ && laidKept (boot_heap w.params) (H1 w.params))=true:=by kernel_rfl
theorem akt(w:World)(os:OsState):openSeen vw loose (importedModules pw.main.body) (λs=>xlAt vw [] s && recOk (gG lw.row.toRowW) s) true ⟨H1 w.params,#[],{},2017,os⟩=openGood vw loose:=by
 rw [PySem.W.Fast.te4187177175401517315];kernel_rfl
def wG:DefRec:=match dA 82 with
|.FunctionDef n a b _ _ _ sc _ _ pos=>⟨n,a,b,sc,pos⟩
|_=>⟨"",⟨[],[],none,[],[],none,[]⟩,[],⟨.module,[],false,false,[]⟩,default⟩
theorem aku:defOf vw lw.row.name=some (wG,[]):=by kernel_rfl
theorem hp:lw.row.prog.theDef lw.row.name=some (wG.params,wG.body,wG.scope):=by kernel_rfl
theorem hkw:kwWritten? wG.params.kwonlyargs wG.params.kw_defaults=some []:=by kernel_rfl
theorem okk:(chainsOk vw && opensWell lw.row.prog && (frees lw.row.toRowW && lw.row.within.isEmpty))=true:=by kernel_rfl
abbrev sj:=lw.row.prog.main
abbrev VW:TablesWhole.Ctx:=⟨sj.scope,[],[],[],none⟩
abbrev Gb(l:List Stmt):=l.all (gH c6 sj.scope VW sj.scope)
theorem VX{T C S}:∀l,eE c6 T C S l=l.all (gH c6 T C S)
|[]=>rfl
|s::r=>congrArg (gH c6 T C S s && ·) (VX r)
theorem L9{l:List α}{p:α->Bool}(n)(h:(l.take n).all p=true)(k:(l.drop n).all p=true):l.all p=true:=by
 rw [<-ig n l,List.all_append,h,k];rfl
theorem tb1:gJ sj.scope=true:=by decide +kernel
theorem tb2:eE jg sj.scope VW sj.scope sj.body=[]:=by decide +kernel
theorem tb3:Gb (sj.body.take 40)=true:=by decide +kernel
theorem tb4:Gb ((sj.body.drop 40).take 20)=true:=by decide +kernel
theorem tb5:Gb (((sj.body.drop 40).drop 20).take 12)=true:=by decide +kernel
theorem tb6:Gb (((sj.body.drop 40).drop 20).drop 12)=true:=by decide +kernel
theorem tbM(m:Module)(a:eE jg m.scope ⟨m.scope,[],[],[],none⟩ m.scope m.body=[])(b:gJ m.scope=true)
  (c:eE c6 m.scope ⟨m.scope,[],[],[],none⟩ m.scope m.body=true):gK c6 m=true:=by
 unfold gK
 rw [a]
 show (true && (gJ m.scope && (eE c6 m.scope ⟨m.scope,[],[],[],none⟩ m.scope m.body && true)))=true
 rw [b,c];rfl
theorem tb7:gK c6 sj=true:=tbM sj tb2 tb1 ((VX _).trans (L9 40 tb3 (L9 20 tb4 (L9 12 tb5 tb6))))
theorem tb8:lw.row.prog.tablesWhole=true:=by
 unfold Program.tablesWhole TablesWhole.wProgram
 rw [tb7];rfl
theorem bare:lw.row.prog.bare:=⟨rfl,rfl,rfl,rfl,rfl,tb8⟩
theorem wit:lw.row.toRowW.promised:=⟨[.list []],by decide +kernel,by decide +kernel⟩
theorem alive(P:Params):(objs P).all (λo=>!o.isFreed)=true:=by kernel_rfl
theorem left:LeftO lw.row.prog vw loose (λs=>xlAt vw [] s && recOk (gG lw.row.toRowW) s) (λs=>s.heap.objs.toList) (λw=>objs w.params) 20000:=
 LeftO.of_pieces (H₀:=λP=>boot_heap P) (H₁:=H1) (gs₀:=#[]) (gs₁:=#[]) (d₀:=boot_drawn) (d₁:={}) (k₀:=boot_toks) (k₁:=2017) (m₀:=11) (ann:=ann) (M:=12+(1+N0))
  opn sz (λw os=>by rw [<-akr];exact akq w os) (by decide +kernel)
  (λw=>funext λos=>congr (congrArg Prod.mk (aks w os)) (congr (congrArg Prod.mk (akt w os)) rfl))
theorem akv{h:Heap}{P:Params}(e:h.objs.toList=objs P){a:Nat}{o:Obj}(ho:(objs P)[a]?=some o):h.get? a=some o:=by
 have h1:h.objs[a]?=some o:=by rw [<-gB,e];exact ho
 have h2:o.isFreed=false:=by
  have:=aI.mp (alive P) o (gw ho)
  simpa using this
 unfold Heap.get?
 rw [h1]
 obtain ⟨c,d,dt,sl⟩:=o
 cases dt<;>first|rfl|(simp [Obj.isFreed] at h2)
theorem head(call:WalkO vw loose (XL vw []) YP lw.row.toRowW wG [] λf vs=>PySem.call f vs):lw.Holds:=
 holds_law said λakw=>holds_open (r:=lw.row) (q:=vw) (loose:=loose) (Xt:=λs=>xlAt vw [] s && recOk (gG lw.row.toRowW) s) (XP:=XL vw []) (Yf:=λs=>s.heap.objs.toList) (Ya:=λw=>objs w.params) (YP:=YP) (N:=20000)
  left (λw s e a o ho=>akv e ho) (λw h h' Y k a o ho=>k a o (Y a o ho)) (λs e=>xl_of s (jh.mp e).1) XL.keeps aku hp hkw
  (λs e=>recFacts_of (jh.mp e).2) (by decide +kernel) akw okk bare wit call
theorem akx(P:Params):nsFind (match (o3 P).data with|.dict es _=>es|_=>#[]) wG.name=some (.ref 1172):=by kernel_rfl
theorem aky{w:World}{h:Heap}{mg:Str->Option Value}(Y:YP w h)(G:h.Ns mainGlobals mg):mg wG.name=some (.ref 1172):=by
 obtain ⟨o,es,ep,ho,hd,_,hf⟩:=G
 have h3:h.get? 3=some (o3 w.params):=Y 3 _ (by kernel_rfl)
 have e:o=o3 w.params:=ai (ho.symm.trans h3)
 rw [<-hf,<-akx w.params,<-e,hd]
theorem akz(ns:List Int):lw.row.claim.post [ofPy (PyData.list (ns.map PyData.int))] (.bool true) [ofPy (PyData.list (ns.map PyData.int))]=true:=by kernel_rfl
set_option tactic.hygienic true in
theorem main(H:∀(w:World) (s:Shared) (l:Addr) (vs:List Value) (ns:List Int),YP w s.heap->s.gens=#[]->s.heap.IsList l vs.toArray->IntsAre vs ns->ns.length<=63->(PyData.list (ns.map PyData.int)).layable0=true->
  wpAny (model pw w) callerA (PySem.call (.ref 1172) [.ref l]) (λv s'=>v=.bool true/\(∀b o,s.heap.get? b=some o->s'.heap.get? b=some o)/\s'.os=s.os/\s'.gens=#[]) (λJ J=>False) s):lw.Holds:=by
 refine head ?_
 intro w qx s₁ mg mb G Y a o pm cd doc dV kV ho hd Ma hD hmg hg args vals as akA hlay hrd Mb hlo
 wrow_args akA hlay hrd Mb hlo
 have ea:a=1172:=by
  have:=(aky Y G.T.g).symm.trans hmg
  simpa using this.symm
 subst ea
 rename_i ns hs _ hL _ _ _ _ l vs _ hl _ _ _ hI _ hc _
 refine wpAny_mono (H w s₁ l vs ns Y hg hl hI (by omega) hL) (λv s' ⟨e,k,ho,hg'⟩=>?_) λJ J x=>x.elim
 subst e
 exact ⟨.inl ⟨.bool true,.bool true,[],rfl,λJ=>rfl,.bool true,akz ns,λJ=>⟨.nil,λJ h=>nomatch h⟩⟩,.of_keep k,ho,.of_eq hg'⟩
end
set_option backward.match.sparseCases true
section
section
open Internal.X renaming bin->b,no->o,wA->B,sX->h,jE->E,dict->d,list->l,tup->t,ve->L,Fs->D,cmp->q,mr->m,call->f,attr->a,take->T,rev->r,item->i
open Internal.X (k v)
open Internal.Xs renaming nil->n,cons->c
open Internal.Ps renaming nil->P,cons->p
open Internal.Tt renaming loc->g,nj->G,nZ->U
open Internal.St renaming expr->e,asg->s,vf->H,aug->u,ite->w,ri->V,«for»->F,ret->A,Ft->Q,cont->K
open Internal.jF renaming nil->N,cons->C
open Internal.PV renaming str->y,int->j
def VY:jF:=C (s (G (v 0) mX) (v 1)) (C (s (G (v 0) l0) (v 2)) (C (s (G (v 0) z5) E) (C (s (G (v 0) nY) (k .none)) (C (s (G (v 0) z6) (k (.bool false))) (C (s (G (v 0) z8) (k .none)) N)))))
theorem akB:codeOf tab 35 7=some (0,VY):=by kernel_rfl
def VZ:jF:=C (e (m (k (.st (.ref 38))) Sq (c (v 0) (c (v 1) (c (v 2) n))))) (C (s (G (v 0) nX) (v 3)) (C (s (G (v 0) rW) (v 4)) (C (s (G (v 0) rg) (v 5)) (C (s (G (v 0) z9) (v 6)) (C (s (G (v 0) q9) E) (C (s (G (v 0) Fc) E) (C (s (G (v 0) mW) (l n)) (C (s (G (v 0) sS) (l n)) (C (s (G (v 0) uY) (k .none)) (C (s (G (v 0) lu) (k .none)) (C (s (G (v 0) nP) (k .none)) N)))))))))))
theorem akC:codeOf tab 216 13=some (0,VZ):=by kernel_rfl
def Md:jF:=C (A (q .IsNot (a (v 0) uY) (k .none))) N
theorem V0:codeOf tab 223 4=some (0,Md):=by kernel_rfl
def V3:jF:=C (s (G (v 0) nX) (v 1)) (C (s (G (v 0) l0) (v 2)) (C (s (G (v 0) rZ) (v 3)) (C (s (G (v 0) yQ) (v 4)) (C (s (G (v 0) yN) (v 5)) (C (s (G (v 0) oX) (v 6)) (C (s (G (v 0) u6) (t n)) (C (s (G (v 0) u0) (k .none)) (C (s (G (v 0) uZ) (k .none)) N))))))))
theorem akD:codeOf tab 243 10=some (0,V3):=by kernel_rfl
def V4:jF:=C (s (g 4) (f (.st (.ref 254)) (c (v 1) (c (v 2) (c (a (v 0) rZ) (c (a (v 0) yQ) (c (a (v 0) yN) (c (h (q .Is (v 3) (k .none)) (a (v 0) oX) (v 3)) n)))))))) (C (s (G (v 4) u6) (a (v 0) u6)) (C (s (G (v 4) u0) (a (v 0) u0)) (C (s (G (v 4) uZ) (a (v 0) uZ)) (C (A (v 4)) N))))
theorem akE:codeOf tab 251 6=some (1,V4):=by kernel_rfl
def Mf:jF:=C (w (q .Is (v 0) (k .none)) (C (A (k (y vd))) N) N) (C (w (f (.st (.builtin "isinstance")) (c (v 0) (c (k (.st (.type "bool"))) n))) (C (A (k (y Sx))) N) N) (C (w (f (.st (.builtin "isinstance")) (c (v 0) (c (k (.st (.type "int"))) n))) (C (A (k (y SM))) N) N) (C (A (h (f (.st (.builtin "isinstance")) (c (v 0) (c (k (.st (.type "str"))) n))) (k (y af8)) (k (y JX)))) N)))
theorem V5:codeOf tab 265 8=some (0,Mf):=by kernel_rfl
def V6:jF:=C (s (g 2) (f (.st (.ref 265)) (c (v 0) n))) (C (w (q .NotEq (v 2) (f (.st (.ref 265)) (c (v 1) n))) (C (A (k (.bool false))) N) N) (C (A (h (q .Eq (v 2) (k (y JX))) (q .Eq (a (v 0) mX) (a (v 1) mX)) (q .Eq (v 0) (v 1)))) N))
theorem akF:codeOf tab 272 7=some (1,V6):=by kernel_rfl
def V7:jF:=C (F false (.one 2) (v 0) (C (w (f (.st (.ref 272)) (c (v 2) (c (v 1) n))) (C (A (k (.bool true))) N) N) N)) (C (A (k (.bool false))) N)
theorem akG:codeOf tab 299 5=some (1,V7):=by kernel_rfl
def zc:jF:=C (H [g 1,g 2,g 3] (t (c (l n) (c E (c (l (c (t (c (v 0) (c (k (.bool false)) n))) n)) n))))) (C (V (v 3) (C (H [g 4,g 5] (m (v 3) Tf n)) (C (w (v 5) (C (e (m (v 1) sU (c (v 4) n))) N) (C (w (q .NotIn (a (v 4) mX) (v 2)) (C (s (U (v 2) (a (v 4) mX)) (k (.bool true))) (C (e (m (v 3) wj (c (L (t (c (v 7) (c (k (.bool false)) n))) (.one 7) (a (v 4) mW) n [] [6,7]) n))) (C (e (m (v 3) sU (c (t (c (v 4) (c (k (.bool true)) n))) n))) (C (e (m (v 3) wj (c (L (t (c (v 7) (c (k (.bool false)) n))) (.one 7) (a (v 4) sS) n [] [6,7]) n))) N)))) N) N)) N))) (C (A (v 1)) N))
theorem akH:codeOf tab 304 13=some (5,zc):=by kernel_rfl
def V8:jF:=C (A (D (a (v 2) mX) (k (.bool true)) (.one 2) (v 0) n [] [1,2])) N
theorem akI:codeOf tab 309 4=some (0,V8):=by kernel_rfl
def Gd:jF:=C (w (B true (q .Eq (a (v 0) sS) (l n)) (q .Eq (a (v 0) mW) (l n))) (C (A (b .Add (l (c (v 0) n)) (v 1))) N) N) (C (H [g 2,g 3,g 4] (t (c (f (.st (.ref 309)) (c (v 1) n)) (c (l n) (c (k (.bool true)) n))))) (C (F false (.one 5) (f (.st (.ref 304)) (c (v 0) n)) (C (s (g 4) (B true (v 4) (o (f (.st (.ref 272)) (c (v 5) (c (v 0) n)))))) (C (w (B false (v 4) (q .NotIn (a (v 5) mX) (v 2))) (C (e (m (v 3) sU (c (v 5) n))) N) N) N))) (C (s (g 6) (f (.st (.ref 309)) (c (v 3) n))) (C (A (b .Add (v 3) (L (v 8) (.one 8) (v 1) (c (q .NotIn (a (v 8) mX) (v 6)) n) [6] [7,8]))) N))))
theorem akJ:codeOf tab 314 11=some (5,Gd):=by kernel_rfl
def Az:jF:=C (s (g 2) (l n)) (C (V (B true (q .IsNot (v 1) (k .none)) (B false (q .Is (a (v 1) nP) (k .none)) (q .NotEq (i (a (v 1) nP) (k (j 0))) (a (v 0) sW)))) (C (e (m (v 2) sU (c (v 1) n))) (C (s (g 1) (a (v 1) rg)) N))) (C (s (g 3) (h (q .Is (v 1) (k .none)) (l n) (i (a (v 1) nP) (k (j 1))))) (C (F true (.one 4) (v 2) (C (s (g 3) (f (.st (.ref 314)) (c (v 4) (c (v 3) n)))) (C (s (G (v 4) nP) (t (c (a (v 0) sW) (c (v 3) n)))) N))) (C (A (v 3)) N))))
theorem akK:codeOf tab 321 9=some (3,Az):=by kernel_rfl
def V9:jF:=C (w (B false (q .In (v 1) (k (.tup [.str uq,.str SK,.str SY,.str To]))) (B true (q .Eq (a (v 0) lu) (k (y kO))) (q .In (v 1) (k (.tup [.str uv,.str Ti,.str pP,.str Tj,.str SV,.str Sy,.str Tw,.str Fg,.str SR,.str Sw,.str EY,.str kG,.str Ss]))))) (C (A (k (y nQ))) N) N) (C (A (k (y kU))) N)
theorem akL:codeOf tab 342 7=some (0,V9):=by kernel_rfl
def Mg:jF:=C (s (g 3) (m (m (a (v 0) wu) oq (c (a (v 1) lu) (c E n))) oq (c (v 2) n))) (C (w (q .IsNot (v 3) (k .none)) (C (s (g 4) (h (f (.st (.builtin "isinstance")) (c (v 3) (c (k (.st (.type "str"))) n))) (k (y af5)) (k (y lu)))) (C (A (f (.st (.ref 333)) (c (v 2) (c (v 1) (c (v 4) (c (k .none) (c (v 3) (c (f (.st (.ref 342)) (c (v 1) (c (v 2) n))) n)))))))) N)) N) (C (s (g 5) (m (m (a (v 0) wz) oq (c (a (v 1) lu) (c E n))) oq (c (v 2) n))) (C (w (q .Is (v 5) (k .none)) (C (A (k .none)) N) N) (C (s (g 6) (m (v 0) Fj (c (v 5) n))) (C (V (q .Eq (a (v 6) wo) (k (y af7))) (C (s (g 6) (i (i (a (v 6) Td) (k (j 0))) (k (j 0)))) N)) (C (H [g 7,g 8,g 9,g 10] (a (v 6) Td)) (C (A (f (.st (.ref 333)) (c (v 8) (c (v 1) (c (k (y sV)) (c (v 9) (c (v 10) (c (f (.st (.ref 342)) (c (v 1) (c (v 2) n))) n)))))))) N)))))))
theorem Wa:codeOf tab 349 11=some (8,Mg):=by kernel_rfl
def Wb:jF:=C (s (g 3) (m (a (v 1) q9) oq (c (v 2) n))) (C (w (B true (q .Is (v 3) (k .none)) (q .IsNot (a (v 1) lu) (k .none))) (C (s (g 3) (f (.st (.ref 349)) (c (v 0) (c (v 1) (c (v 2) n))))) (C (w (q .IsNot (v 3) (k .none)) (C (s (U (a (v 1) q9) (v 2)) (v 3)) N) N) N)) N) (C (A (h (B false (q .Is (v 3) (k .none)) (q .Eq (a (v 3) rZ) (k (y Fd)))) (k .none) (v 3))) N))
theorem akM:codeOf tab 356 9=some (1,Wb):=by kernel_rfl
def Wc:jF:=C (s (g 3) (k .none)) (C (F false (.one 4) (v 1) (C (s (g 5) (f (.st (.ref 356)) (c (v 0) (c (v 4) (c (v 2) n))))) (C (w (q .Is (v 5) (k .none)) (C K N) N) (C (w (q .NotEq (a (v 5) rZ) (k (y lN))) (C (A (h (q .Eq (a (v 5) rZ) (k (y nH))) (k .none) (h (q .Is (v 3) (k .none)) (v 5) (f (.st (.ref 405)) (c (v 5) (c (v 3) n)))))) N) N) (C (s (g 3) (h (q .Is (v 3) (k .none)) (a (v 5) oX) (v 3))) N))))) (C (A (k .none)) N))
theorem akN:codeOf tab 363 11=some (3,Wc):=by kernel_rfl
noncomputable def Wf:jF:=C (A (f (.st (.ref 363)) (c (v 0) (c (f (.st (.ref 321)) (c (v 0) (c (v 1) n))) (c (v 2) n))))) N
theorem akO:codeOf tab 370 4=some (0,Wf):=by kernel_rfl
def Wg:jF:=C (u (v 0) sW (k (j 1))) N
theorem akP:codeOf tab 377 2=some (0,Wg):=by kernel_rfl
def Wh:jF:=C (w (B false (q .Is (v 1) (k .none)) (f (.st (.builtin "isinstance")) (c (v 1) (c (k (.st (.type "bool"))) n)))) (C (A (m (v 0) wi (c (v 1) n))) N) N) (C (w (o (f (.st (.builtin "isinstance")) (c (v 1) (c (k (.st (.ref 38))) n)))) (C (e (m (v 0) af6 (c (k (y Sn)) (c (k (y af4)) n)))) N) N) (C (H [g 2,g 3] (t (c (l n) (c (v 1) n)))) (C (V (B true (q .IsNot (v 3) (k .none)) (q .Is (a (v 3) nY) (k .none))) (C (e (m (v 2) sU (c (v 3) n))) (C (s (g 3) (f (.st (.ref 391)) (c (v 3) n))) N))) (C (F true (.one 3) (v 2) (C (e (f (.st (.ref 398)) (c (v 0) (c (v 3) n)))) N)) (C (A (a (v 1) nY)) N)))))
theorem akQ:codeOf tab 384 9=some (2,Wh):=by kernel_rfl
def Wi:jF:=C (A (h (B true (f (.st (.builtin "isinstance")) (c (v 0) (c (k (.st (.ref 226))) n))) (a (v 0) rW)) (a (v 0) rg) (k .none))) N
theorem akR:codeOf tab 391 6=some (0,Wi):=by kernel_rfl
def Wj:jF:=C (s (g 2) (f (.st (.ref 391)) (c (v 1) n))) (C (s (g 3) (h (q .Is (v 2) (k .none)) (m (v 0) wi (c (v 1) n)) (a (v 2) nY))) (C (s (G (v 1) nY) (m (v 0) yO (c (k .none) (c (k (.bool true)) (c (v 3) (c (k .none) (c (v 1) n))))))) (C (w (B true (f (.st (.builtin "isinstance")) (c (v 1) (c (k (.st (.ref 226))) n))) (B true (q .IsNot (a (v 1) lu) (k .none)) (o (m (v 1) wk n)))) (C (s (G (a (v 1) nY) lu) (b .Add (a (v 1) lu) (k (y JK)))) N) N) (C (e (f (.st (.ref 377)) (c (v 0) n))) N))))
theorem akS:codeOf tab 398 9=some (2,Wj):=by kernel_rfl
def Wk:jF:=C (A (m (v 0) Ff (c (a (v 0) nX) (c (a (v 0) l0) (c (v 1) n))))) N
theorem akT:codeOf tab 405 4=some (0,Wk):=by kernel_rfl
def Wl:jF:=C (A (f (.st (.ref 299)) (c (f (.st (.ref 321)) (c (v 0) (c (m (v 0) rY (c (v 1) n)) n))) (c (v 2) n)))) N
theorem akU:codeOf tab 412 5=some (0,Wl):=by kernel_rfl
def Wm:jF:=C (s (g 4) (f (.st (.ref 370)) (c (v 0) (c (m (v 0) rY (c (v 1) n)) (c (v 2) n))))) (C (A (B true (q .IsNot (v 4) (k .none)) (B false (v 3) (q .Eq (a (v 4) oX) (k (y kU)))))) N)
theorem akV:codeOf tab 419 7=some (1,Wm):=by kernel_rfl
def Wn:jF:=C (s (g 4) (f (.st (.ref 370)) (c (v 0) (c (m (v 0) rY (c (v 2) n)) (c (v 3) n))))) (C (w (B false (q .Is (v 4) (k .none)) (q .NotEq (a (v 4) oX) (k (y mq)))) (C (A (B true (q .IsNot (v 4) (k .none)) (q .Eq (a (v 4) oX) (k (y kU))))) N) N) (C (A (f (.st (.ref 412)) (c (v 0) (c (v 1) (c (h (a (a (v 4) l0) rW) (m (v 0) uw (c (a (v 4) l0) n)) (a (v 4) l0)) n))))) N))
theorem akW:codeOf tab 426 9=some (1,Wn):=by kernel_rfl
def Wo:jF:=C (s (G (v 0) yR) (v 1)) (C (s (G (v 0) SD) (v 2)) (C (s (G (v 0) Fa) (v 3)) (C (s (G (v 0) Fb) (v 4)) (C (s (G (v 0) mX) (v 5)) (C (s (G (v 0) u6) (v 6)) (C (s (G (v 0) u0) (v 7)) (C (s (G (v 0) rZ) (v 8)) (C (s (G (v 0) SN) (v 9)) (C (s (G (v 0) oX) (k (y kU))) (C (s (G (v 0) Fo) (h (q .Eq (v 8) (k (y Fe))) (k .none) (v 0))) N))))))))))
theorem akX:codeOf tab 441 15=some (0,Wo):=by kernel_rfl
def Wq:jF:=C (s (G (v 0) uZ) (v 1)) (C (s (G (v 0) Te) (v 2)) (C (s (G (v 0) Fp) (v 3)) (C (s (G (v 0) Fo) (v 4)) (C (s (G (v 0) lB) (v 5)) (C (s (G (v 0) mX) (k .none)) (C (s (G (v 0) Fg) (k .none)) (C (s (G (v 0) Tz) (k .none)) (C (s (G (v 0) E9) (k .none)) (C (s (G (v 0) z7) (k .none)) (C (s (G (v 0) Tv) (k .none)) (C (s (G (v 0) oX) (k (y kU))) N)))))))))))
theorem akY:codeOf tab 469 13=some (0,Wq):=by kernel_rfl
def Wr:jF:=C (s (G (v 0) Tn) (v 1)) (C (s (G (v 0) nX) (v 2)) (C (s (G (v 0) Fa) (v 3)) (C (s (G (v 0) Fb) (v 4)) (C (s (G (v 0) wo) (v 5)) (C (s (G (v 0) E9) (v 6)) (C (s (G (v 0) z7) (v 7)) (C (s (G (v 0) SQ) (k (.bool false))) N)))))))
theorem akZ:codeOf tab 505 9=some (0,Wr):=by kernel_rfl
def Ws:jF:=C (w (B false (q .NotIn (a (v 2) wo) (t (c (k (y lB)) (c (k (y Aa)) n)))) (q .Eq (a (v 3) oX) (k (y kU)))) (C (A (k (.bool false))) N) N) (C (w (B false (q .Eq (a (v 3) oX) (k (y nQ))) (B false (q .Eq (a (v 2) wo) (k (y Aa))) (q .Is (v 1) (k .none)))) (C (A (k (.bool true))) N) N) (C (s (g 4) (h (a (a (v 3) l0) rW) (m (a (v 0) yS) uw (c (a (v 3) l0) n)) (a (v 3) l0))) (C (A (o (f (.st (.ref 412)) (c (a (v 0) yS) (c (a (a (v 1) lB) yR) (c (v 4) n)))))) N)))
theorem ak0:codeOf tab 526 9=some (1,Ws):=by kernel_rfl
def Wu:jF:=C (s (G (v 0) SZ) (v 1)) (C (s (G (v 0) z9) (v 2)) (C (s (G (v 0) lB) (v 3)) N))
theorem ak1:codeOf tab 609 4=some (0,Wu):=by kernel_rfl
def Wv:jF:=C (s (G (v 0) wo) (v 1)) (C (s (G (v 0) Tc) (v 2)) (C (s (G (v 0) z4) (v 3)) (C (s (G (v 0) mX) (v 4)) (C (s (G (v 0) Tq) (k (j 0))) (C (s (G (v 0) z7) (l n)) (C (s (G (v 0) nP) (k .none)) N))))))
theorem ak2:codeOf tab 652 8=some (0,Wv):=by kernel_rfl
def Ww:jF:=C (s (G (v 0) yS) (v 1)) (C (s (G (v 0) Tr) (v 2)) (C (s (G (v 0) Sz) (v 3)) (C (s (G (v 0) Fp) (l n)) (C (s (G (v 0) TB) (k .none)) (C (s (G (v 0) SJ) (k .none)) N)))))
theorem ak3:codeOf tab 673 7=some (0,Ww):=by kernel_rfl
def Mh:jF:=C (w (q .Is (v 3) (k .none)) (C (A (k (y qw))) N) N) (C (w (B false (q .NotEq (v 4) (k (y lB))) (q .Eq (a (v 3) oX) (k (y kU)))) (C (A (k .none)) N) N) (C (w (B true (q .Eq (a (v 3) oX) (k (y mq))) (q .IsNot (a (v 1) z4) (k .none))) (C (s (g 5) (h (a (a (v 3) l0) rW) (m (v 0) uw (c (a (v 3) l0) n)) (a (v 3) l0))) (C (A (h (f (.st (.ref 412)) (c (v 0) (c (a (a (a (v 1) z4) lB) yR) (c (v 5) n)))) (k .none) (k (y mq)))) N)) N) (C (A (a (v 3) oX)) N)))
theorem Wx:codeOf tab 765 12=some (1,Mh):=by kernel_rfl
def Wy:jF:=C (s (G (v 0) wu) (v 1)) (C (s (G (v 0) wz) (h (q .Is (v 2) (k .none)) E (v 2))) (C (s (G (v 0) Fj) (v 3)) (C (s (G (v 0) JS) (v 4)) (C (s (G (v 0) JW) (k (j 0))) (C (s (G (v 0) Ct) (k (j 0))) (C (s (G (v 0) JQ) (k (j 8))) (C (s (G (v 0) JV) E) (C (s (G (v 0) ur) E) (C (s (G (v 0) sW) (k (j 0))) (C (s (G (v 0) JL) (k (j 0))) (C (s (G (v 0) JN) E) (C (s (G (v 0) JT) (l n)) (C (s (G (v 0) JP) (k .none)) (C (s (G (v 0) Cr) (k (.bool false))) (C (s (G (v 0) JR) (f (.st (.ref 38)) (c (m (v 0) mX n) (c (m (v 0) pG (c (k (y kZ)) n)) n)))) (C (s (G (v 0) Cr) (k (.bool true))) (C (F false (.one 5) (f (.st (.type "list")) (c (a (v 0) ur) n)) (C (e (m (v 0) JM (c (v 5) n))) N)) N)))))))))))))))))
theorem ak4:codeOf tab 793 21=some (1,Wy):=by kernel_rfl
def Wz:jF:=C (u (v 0) Ct (k (j 1))) (C (A (a (v 0) Ct)) N)
theorem ak5:codeOf tab 814 4=some (0,Wz):=by kernel_rfl
def Mi:jF:=C (s (g 2) (m (a (v 0) ur) oq (c (v 1) n))) (C (A (h (q .Is (v 2) (k .none)) (m (v 0) SW (c (v 1) n)) (v 2))) N)
theorem WC:codeOf tab 835 6=some (1,Mi):=by kernel_rfl
def WD:jF:=C (s (g 2) (q .NotIn (v 1) (k (.tup [.str kO,.str qI,.str z0])))) (C (s (g 3) (f (.st (.ref 226)) (c (m (v 0) mX n) (c (k .none) (c (v 1) (c (v 2) n)))))) (C (s (U (a (v 0) ur) (v 1)) (v 3)) (C (s (G (v 3) lu) (v 1)) (C (s (g 4) (i (k (.st (.ref 767))) (v 1))) (C (s (G (v 3) rg) (h (q .Is (v 4) (k .none)) (k .none) (m (v 0) pG (c (v 4) n)))) (C (s (G (v 3) l0) (m (v 0) pG (c (h (v 2) (k (y jS)) (k (y lZ))) n))) (C (s (G (v 3) mW) (L (m (v 0) pG (c (v 6) n)) (.one 6) (m (k (.st (.ref 770))) oq (c (v 1) (c (t n) n))) n [0] [5,6])) (C (w (a (v 0) Cr) (C (e (m (v 0) JM (c (v 1) n))) N) N) (C (A (v 3)) N)))))))))
theorem ak6:codeOf tab 840 12=some (3,WD):=by kernel_rfl
def WG:jF:=C (w (B false (q .In (b .Add (v 1) (k (y JK))) (a (v 0) wu)) (q .In (b .Add (v 1) (k (y JK))) (a (v 0) wz))) (C (e (f (.st (.ref 384)) (c (v 0) (c (i (a (v 0) ur) (v 1)) n)))) N) N) N
theorem ak7:codeOf tab 847 6=some (0,WG):=by kernel_rfl
def WH:jF:=C (s (g 6) (m (v 0) pG (c (h (v 2) (k (y jS)) (k (y lZ))) n))) (C (w (B true (v 2) (q .Is (v 3) (k .none))) (C (s (g 3) (m (v 0) pG (c (k (y kZ)) n))) N) N) (C (s (g 7) (h (B false (q .Is (v 4) (k .none)) (f (.st (.ref 272)) (c (v 4) (c (m (v 0) pG (c (k (y kZ)) n)) n)))) (k .none) (v 4))) (C (s (g 8) (f (.st (.ref 226)) (c (m (v 0) mX n) (c (v 6) (c (v 1) (c (v 2) (c (v 3) (c (v 7) n)))))))) (C (s (G (v 8) uY) (v 5)) (C (A (v 8)) N)))))
theorem ak8:codeOf tab 855 9=some (3,WH):=by kernel_rfl
def Mj:jF:=C (w (q .Is (v 1) (k .none)) (C (A (m (v 0) pG (c (k (y kH)) n))) N) N) (C (w (f (.st (.builtin "isinstance")) (c (v 1) (c (k (.st (.type "bool"))) n))) (C (A (m (v 0) pG (c (h (v 1) (k (y Sj)) (k (y RW))) n))) N) N) (C (w (f (.st (.builtin "isinstance")) (c (v 1) (c (k (.st (.type "int"))) n))) (C (A (m (v 0) pG (c (k (y kG)) n))) N) N) (C (A (h (f (.st (.builtin "isinstance")) (c (v 1) (c (k (.st (.type "str"))) n))) (m (v 0) pG (c (k (y JJ)) n)) (a (v 1) l0))) N)))
theorem WK:codeOf tab 862 8=some (0,Mj):=by kernel_rfl
def WN:jF:=C (w (o (f (.st (.builtin "isinstance")) (c (v 1) (c (k (.st (.ref 38))) n)))) (C (A (m (v 0) wi (c (v 1) n))) N) N) (C (w (q .IsNot (a (v 1) nY) (k .none)) (C (A (a (v 1) nY)) N) N) (C (A (h (f (.st (.builtin "isinstance")) (c (v 1) (c (k (.st (.ref 226))) n))) (m (v 0) yP (c (v 1) n)) (a (v 1) l0))) N))
theorem ak9:codeOf tab 869 7=some (0,WN):=by kernel_rfl
def AA:jF:=C (s (g 2) (h (B true (a (v 1) rW) (o (m (v 1) wk n))) (a (v 1) rg) (k .none))) (C (V (q .IsNot (v 2) (k .none)) (C (w (q .IsNot (a (v 2) nY) (k .none)) (C (A (a (v 2) nY)) N) N) (C (s (g 2) (a (v 2) rg)) N))) (C (A (a (v 1) l0)) N))
theorem ala:codeOf tab 876 7=some (1,AA):=by kernel_rfl
def Ge:jF:=C (V (m (v 1) wk n) (C (s (g 1) (a (v 1) rg)) N)) (C (A (v 1)) N)
theorem alb:codeOf tab 890 4=some (0,Ge):=by kernel_rfl
def WO:jF:=C (A (d (p (k (y m9)) (k .none) (p (k (y kZ)) (k (y m9)) (p (k (y lZ)) (k (y kZ)) (p (k (y jS)) (k (y lZ)) (p (k (y qJ)) (k (y kZ)) (p (k (y kG)) (k (y qJ)) (p (k (y kH)) (k (y kZ)) (p (k (y kO)) (k .none) (p (k (y qI)) (k .none) (p (k (y jU)) (k (y kZ)) (p (k (y jK)) (k (y jU)) (p (k (y lQ)) (k (y jU)) (p (k (y j6)) (k .none) (p (k (y lJ)) (k .none) P)))))))))))))))) N
theorem alc:codeOf tab 1065 3=some (0,WO):=by kernel_rfl
def WQ:jF:=C (A (d (p (k (y kZ)) (l (c (k (y kO)) n)) (p (k (y qJ)) (l (c (k (y qI)) n)) P)))) N
theorem ald:codeOf tab 1072 4=some (0,WQ):=by kernel_rfl
def WR:jF:=C (A (d (p (k (y kP)) (k (y jK)) (p (k (y lM)) (k (y jS)) (p (k (y ku)) (k (y jS)) (p (k (y nG)) (k (y lZ)) P)))))) N
theorem ale:codeOf tab 1079 3=some (0,WR):=by kernel_rfl
def WT:jF:=C (A (l (c (k (y mj)) (c (k (y qK)) (c (k (y pP)) (c (k (y qv)) (c (k (y jK)) (c (k (y jU)) (c (k (y lQ)) (c (k (y j6)) (c (k (y uo)) (c (k (y vd)) (c (k (y m9)) n))))))))))))) N
theorem alf:codeOf tab 1086 3=some (0,WT):=by kernel_rfl
def WU:jF:=C (A (d (p (k (y mj)) (l (c (k (y kP)) (c (k (y jK)) n))) (p (k (y qK)) (l (c (k (y jK)) n)) (p (k (y pP)) (l (c (k (y jU)) n)) (p (k (y qv)) (l (c (k (y lQ)) n)) (p (k (y jK)) (l (c (k (y lM)) (c (k (y ku)) (c (k (y jS)) n)))) (p (k (y jU)) (l (c (k (y ku)) (c (k (y jS)) n))) (p (k (y lQ)) (l (c (k (y ku)) (c (k (y jS)) n))) (p (k (y j6)) (l (c (k (y nG)) (c (k (y lZ)) n))) (p (k (y uo)) (l (c (k (y kG)) n)) (p (k (y vd)) (l (c (k (y kH)) n)) (p (k (y m9)) (l (c (k (y mV)) (c (k (y jS)) n))) P))))))))))))) N
theorem alg:codeOf tab 1093 4=some (0,WU):=by kernel_rfl
def WV:jF:=C (A (d (p (k (y kP)) (l (c (k (y pP)) (c (k (y qv)) (c (k (y mj)) (c (k (y qK)) n))))) (p (k (y ku)) (l (c (k (y lQ)) (c (k (y j6)) (c (k (y m9)) (c (k (y mj)) n))))) (p (k (y lM)) (l (c (k (y lQ)) (c (k (y j6)) (c (k (y m9)) (c (k (y mj)) n))))) (p (k (y nG)) (l (c (k (y jK)) (c (k (y j6)) (c (k (y mj)) (c (k (y uo)) n))))) P)))))) N
theorem alh:codeOf tab 1100 4=some (0,WV):=by kernel_rfl
def WW:jF:=C (H [g 1,g 2] (t (c (k (j 0)) (c (k (j 29)) n)))) (C (F false (.one 3) (T (v 0) (k (j 30))) (C (s (g 2) (b .Mod (b .Add (b .Add (b .Mult (v 2) (k (j 7727))) (b .Mult (v 3) (k (j 31)))) (k (j 5))) (k (j 1000003)))) (C (w (B true (q .Eq (v 1) (k (j 0))) (q .GtE (f (.st (.builtin "abs")) (c (v 3) n)) (b .Pow (k (j 10)) (k (j 18))))) (C (s (g 1) (b .Mod (f (.st (.builtin "abs")) (c (v 3) n)) (b .Pow (k (j 10)) (k (j 120))))) N) N) N))) (C (A (l (c (v 1) (c (v 2) (c (k (j 0)) n))))) N))
theorem ali:codeOf tab 1107 9=some (3,WW):=by kernel_rfl
noncomputable def WX:jF:=C (w (q .Gt (i (v 0) (k (j 0))) (k (j 0))) (C (s (g 2) (b .Mod (i (v 0) (k (j 0))) (v 1))) (C (s (U (v 0) (k (j 0))) (b .FloorDiv (i (v 0) (k (j 0))) (v 1))) (C (A (v 2)) N))) N) (C (s (U (v 0) (k (j 2))) (b .Add (i (v 0) (k (j 2))) (k (j 1)))) (C (s (g 3) (b .Mod (b .Add (i (v 0) (k (j 1))) (b .Mult (b .Mult (k (j 7919)) (i (v 0) (k (j 2)))) (i (v 0) (k (j 2))))) (k (j 1000003)))) (C (A (b .Mod (b .FloorDiv (b .Mod (b .Mult (v 3) (v 3)) (k (j 999983))) (k (j 7))) (v 1))) N)))
theorem alj:codeOf tab 1114 9=some (2,WX):=by kernel_rfl
def tf:jF:=C (H [g 2,g 3] (t (c (i (v 1) (k (y pW))) (c (l n) n)))) (C (w (q .Gt (f (.st (.ref 1114)) (c (v 0) (c (k (j 4)) n))) (k (j 0))) (C (s (U (v 2) (k (y kP))) (k (y jK))) (C (e (m (v 3) sU (c (k (y kP)) n))) N)) N) (C (s (g 4) (i (l (c (k (y jK)) (c (k (y jU)) (c (k (y j6)) (c (k (y kT)) n))))) (f (.st (.ref 1114)) (c (v 0) (c (k (j 4)) n))))) (C (w (q .In (v 4) (l (c (k (y jK)) (c (k (y jU)) n)))) (C (e (m (v 2) JY (c (d (p (k (y mV)) (k (y jS)) (p (k (y ni)) (k (y mV)) (p (k (y ku)) (k (y ni)) P)))) n))) (C (e (m (v 3) sU (c (k (y ku)) n))) N)) N) (C (w (q .Eq (v 4) (k (y jK))) (C (s (U (v 2) (k (y lM))) (k (y ku))) (C (e (m (v 3) sU (c (k (y lM)) n))) N)) N) (C (w (q .Eq (v 4) (k (y j6))) (C (s (U (v 2) (k (y nG))) (k (y lZ))) (C (e (m (v 3) sU (c (k (y nG)) n))) N)) N) (C (A (b .Add (v 3) (l (c (k (y j6)) (c (k (y jK)) (c (k (y jU)) (c (k (y lJ)) (c (k (y lQ)) (c (k (y kZ)) (c (k (y kO)) (c (k (y kG)) (c (k (y kH)) n)))))))))))) N))))))
theorem alk:codeOf tab 1121 10=some (3,tf):=by kernel_rfl
def CY:jF:=C (F false (.one 2) (f (.st (.type "range")) (c (b .Add (k (j 1)) (f (.st (.ref 1114)) (c (v 0) (c (k (j 3)) n)))) n)) (C (H [g 3,g 4] (t (c (i (k (y RZ)) (v 2)) (c (i (l (c (k (y mW)) (c (k (y pX)) n))) (f (.st (.ref 1114)) (c (v 0) (c (k (j 2)) n)))) n)))) (C (s (g 5) (b .Add (b .Add (l (c (k (y jK)) (c (k (y jU)) (c (k (y lQ)) n)))) (b .Mult (l (c (k (y j6)) n)) (f (.st (.type "int")) (c (q .Eq (v 3) (k (y lJ))) n)))) (L (v 9) (.one 9) (l (c (k (y kP)) (c (k (y lM)) (c (k (y ku)) n)))) (c (q .In (v 9) (i (v 1) (k (y pW)))) n) [1] [8,9]))) (C (s (g 6) (i (v 5) (f (.st (.ref 1114)) (c (v 0) (c (f (.st (.builtin "len")) (c (v 5) n)) n))))) (C (s (g 7) (m (i (v 1) (v 4)) oq (c (v 6) (c (l n) n)))) (C (w (q .NotIn (v 3) (v 7)) (C (s (U (i (v 1) (v 4)) (v 6)) (b .Add (v 7) (l (c (v 3) n)))) N) N) N)))))) N
theorem alm:codeOf tab 1126 10=some (6,CY):=by kernel_rfl
def rq:jF:=C (s (g 3) (i (v 1) (k (y nJ)))) (C (F false (.one 4) (f (.st (.type "range")) (c (f (.st (.ref 1114)) (c (v 0) (c (v 2) n))) n)) (C (H [g 5,g 6] (t (c (i (v 3) (f (.st (.ref 1114)) (c (v 0) (c (f (.st (.builtin "len")) (c (v 3) n)) n)))) (c (f (.st (.ref 1114)) (c (v 0) (c (k (j 8)) n))) n)))) (C (H [g 7,g 8] (t (c (i (l (c (k (y mq)) (c (k (y kU)) (c (k (y nQ)) n)))) (f (.st (.ref 1114)) (c (v 0) (c (k (j 3)) n)))) (c (v 5) n)))) (C (w (q .Eq (f (.st (.ref 1114)) (c (v 0) (c (k (j 4)) n))) (k (j 0))) (C (s (g 8) (i (v 3) (f (.st (.ref 1114)) (c (v 0) (c (f (.st (.builtin "len")) (c (v 3) n)) n))))) N) N) (C (s (g 9) (h (q .Eq (v 6) (k (j 5))) (k (y nH)) (h (q .Gt (v 6) (k (j 5))) (k (y lN)) (k (y sV))))) (C (s (U (i (v 1) (k (y ou))) (v 5)) (t (c (v 9) (c (h (q .Eq (v 9) (k (y nH))) (k (y kU)) (v 7)) (c (v 8) n))))) N)))))) (C (s (g 10) (h (q .Eq (v 2) (k (j 2))) (k (j 0)) (i (l (c (k (j 0)) (c (k (j 0)) (c (k (j 0)) (c (k (j 1)) (c (k (j 2)) (c (k (j 3)) n))))))) (f (.st (.ref 1114)) (c (v 0) (c (k (j 6)) n)))))) (C (s (U (v 1) (k (y nc))) (i (v 3) (v 10))) (C (s (g 7) (i (l (c (k (y mq)) (c (k (y mq)) (c (k (y mq)) (c (k (y nQ)) n))))) (f (.st (.ref 1114)) (c (v 0) (c (k (j 4)) n))))) (C (s (U (i (v 1) (k (y ou))) (i (v 1) (k (y nc)))) (t (c (k (y sV)) (c (v 7) (c (i (v 1) (k (y nc))) n))))) N)))))
theorem aln:codeOf tab 1133 12=some (8,rq):=by kernel_rfl
def zf:jF:=C (s (g 2) (i (l (c (k (y Cu)) (c (k (y uv)) (c (k (y uq)) n)))) (f (.st (.ref 1114)) (c (v 0) (c (k (j 3)) n))))) (C (s (g 3) (i (l (c (k (y kT)) (c (k (y kO)) (c (k (y kG)) (c (k (y kH)) n))))) (f (.st (.ref 1114)) (c (v 0) (c (k (j 4)) n))))) (C (s (g 4) (d (p (k (y pW)) (f (.st (.type "dict")) (c (f (.st (.ref 1065)) n) n)) (p (k (y pX)) E (p (k (y mW)) E (p (k (y ou)) E (p (k (y nX)) (v 2) (p (k (y lu)) (v 3) P)))))))) (C (w (q .NotEq (v 3) (k (y kT))) (C (s (g 5) (B false (q .Eq (v 2) (k (y uq))) (B true (q .Eq (v 2) (k (y uv))) (q .Eq (v 3) (k (y kO)))))) (C (s (U (i (v 4) (k (y ou))) (v 3)) (t (c (k (y lu)) (c (h (v 5) (k (y nQ)) (k (y kU))) (c (v 3) n))))) N)) N) (C (s (U (v 4) (k (y nJ))) (f (.st (.ref 1121)) (c (v 0) (c (v 4) n)))) (C (e (f (.st (.ref 1126)) (c (v 0) (c (v 4) n)))) (C (e (f (.st (.ref 1133)) (c (v 0) (c (v 4) (c (v 1) n))))) (C (A (v 4)) N)))))))
theorem alo:codeOf tab 1140 10=some (4,zf):=by kernel_rfl
def qf:jF:=C (H [g 2,g 3,g 4] (t (c E (c (d (p (k (y uo)) (k (j 5)) (p (k (y vd)) (k .none) (p (k (y m9)) (m (v 0) pG (c (k (y m9)) n)) P)))) (c (i (v 1) (k (y nX))) n))))) (C (F false (.one 5) (l (c (k (y kZ)) (c (k (y kO)) (c (k (y kG)) (c (k (y kH)) n))))) (C (s (U (v 2) (v 5)) (m (v 0) pG (c (v 5) n))) N)) (C (s (U (v 2) (k (y jU))) (m (v 0) yO (c (k (y jU)) (c (k (.bool true)) n)))) (C (s (U (v 2) (k (y jK))) (m (v 0) yO (c (k (y jK)) (c (k (.bool true)) (c (i (v 2) (k (y jU))) n))))) (C (s (U (v 2) (k (y lQ))) (m (v 0) yO (c (k (y lQ)) (c (k (.bool true)) (c (i (v 2) (k (y jU))) n))))) (C (H [U (v 2) (k (y j6)),U (v 2) (k (y lJ))] (t (c (m (v 0) yO (c (k (y j6)) (c (k (.bool false)) n))) (c (m (v 0) yO (c (k (y lJ)) (c (k (.bool false)) n))) n)))) (C (F false (.many [6,5]) (l (c (t (c (k (y mj)) (c (k (y jK)) n))) (c (t (c (k (y qK)) (c (k (y jK)) n))) (c (t (c (k (y pP)) (c (k (y jU)) n))) (c (t (c (k (y qv)) (c (k (y lQ)) n))) n))))) (C (s (U (v 3) (v 6)) (f (.st (.ref 38)) (c (m (v 0) mX n) (c (i (v 2) (v 5)) n)))) N)) (C (F false (.one 5) (l (c (k (y jK)) (c (k (y jU)) (c (k (y lQ)) (c (k (y j6)) n))))) (C (s (U (v 3) (v 5)) (i (v 2) (v 5))) N)) (C (F false (.one 5) (l (c (k (y mj)) (c (k (y jK)) (c (k (y jU)) (c (k (y j6)) n))))) (C (w (q .In (b .Add (v 5) (k (y Sv))) (i (v 1) (k (y pW)))) (C (s (U (v 2) (b .Add (v 5) (k (y Sv)))) (f (.st (.ref 384)) (c (v 0) (c (i (v 3) (v 5)) n)))) N) N) N)) (C (F false (.one 7) (i (v 1) (k (y pX))) (C (e (m (a (i (v 2) (v 7)) sS) wj (c (L (i (v 2) (v 13)) (.one 13) (i (i (v 1) (k (y pX))) (v 7)) n [2] [12,13]) n))) N)) (C (F false (.one 7) (i (v 1) (k (y mW))) (C (e (m (a (i (v 2) (v 7)) mW) wj (c (L (i (v 2) (v 13)) (.one 13) (i (i (v 1) (k (y mW))) (v 7)) n [2] [12,13]) n))) N)) (C (F false (.one 8) (i (v 1) (k (y ou))) (C (H [g 9,g 10,g 11] (i (i (v 1) (k (y ou))) (v 8))) (C (w (q .NotEq (v 9) (k (y lu))) (C (s (U (a (i (v 2) (v 8)) q9) (v 4)) (f (.st (.ref 254)) (c (v 4) (c (i (v 2) (v 11)) (c (v 9) (c (k .none) (c (k .none) (c (v 10) n)))))))) N) N) N))) (C (A (t (c (v 2) (c (v 3) n)))) N))))))))))))
theorem alp:codeOf tab 1145 18=some (10,qf):=by kernel_rfl
def WY:jF:=C (s (g 2) (l n)) (C (F false (.one 3) (r (m (i (v 0) (k (y pX))) oq (c (v 1) (c (l n) n)))) (C (e (m (v 2) wj (c (f (.st (.ref 1152)) (c (v 0) (c (v 3) n))) n))) N)) (C (e (m (v 2) sU (c (v 1) n))) (C (F false (.one 3) (r (m (i (v 0) (k (y mW))) oq (c (v 1) (c (m (f (.st (.ref 1072)) n) oq (c (v 1) (c (l n) n))) n)))) (C (e (m (v 2) wj (c (f (.st (.ref 1152)) (c (v 0) (c (v 3) n))) n))) N)) (C (A (v 2)) N))))
theorem alq:codeOf tab 1152 9=some (2,WY):=by kernel_rfl
def Gf:jF:=C (H [g 2,g 3] (t (c E (c (k (j 0)) n)))) (C (V (q .IsNot (v 1) (k .none)) (C (s (g 4) (f (.st (.ref 1152)) (c (v 0) (c (v 1) n)))) (C (F false (.one 5) (f (.st (.type "range")) (c (f (.st (.builtin "len")) (c (v 4) n)) n)) (C (s (g 6) (i (v 4) (v 5))) (C (w (B true (q .Eq (m (v 4) Cq (c (v 6) n)) (v 5)) (B false (q .NotIn (v 6) (v 2)) (o (i (i (v 2) (v 6)) (k (j 2)))))) (C (s (U (v 2) (v 6)) (t (c (v 3) (c (v 5) (c (q .Lt (v 5) (m (v 4) Cq (c (v 1) n))) n))))) N) N) N))) (C (H [g 1,g 3] (t (c (i (i (v 0) (k (y pW))) (v 1)) (c (b .Add (v 3) (k (j 1))) n)))) N)))) (C (A (L (v 9) (.many [8,9]) (f (.st (.builtin "sorted")) (c (L (t (c (i (v 2) (v 8)) (c (v 8) n))) (.one 8) (v 2) n [2] [7,8]) n)) n [] [7,8,9])) N))
theorem alr:codeOf tab 1157 13=some (5,Gf):=by kernel_rfl
def WZ:jF:=C (s (g 2) (L (i (i (v 0) (k (y ou))) (v 6)) (.one 6) (v 1) (c (q .In (v 6) (i (v 0) (k (y ou)))) n) [0] [5,6])) (C (s (g 3) (L (v 6) (.one 6) (v 2) (c (q .NotEq (i (v 6) (k (j 0))) (k (y lN))) n) [] [5,6])) (C (w (B false (q .Eq (v 3) (l n)) (q .Eq (i (i (v 3) (k (j 0))) (k (j 0))) (k (y nH)))) (C (A (k .none)) N) N) (C (s (g 4) (b .Add (L (i (v 6) (k (j 1))) (.one 6) (T (v 2) (m (v 2) Cq (c (i (v 3) (k (j 0))) n))) n [] [5,6]) (l (c (i (i (v 3) (k (j 0))) (k (j 1))) n)))) (C (A (t (c (i (v 4) (k (j 0))) (c (i (i (v 3) (k (j 0))) (k (j 2))) n)))) N))))
theorem als:codeOf tab 1162 10=some (3,WZ):=by kernel_rfl
def xU:jF:=C (H [g 5,g 6,g 7,g 8] (t (c (i (v 3) (k (j 0))) (c (i (v 4) (k (j 0))) (c (i (v 1) (k (y nX))) (c (f (.st (.ref 1162)) (c (v 1) (c (i (v 4) (k (j 1))) n))) n)))))) (C (H [g 9,g 10] (t (c (f (.st (.ref 370)) (c (v 0) (c (m (v 0) rY (c (v 6) n)) (c (v 7) n)))) (c (f (.st (.ref 451)) (c (v 5) (c (k .none) (c (l n) (c (k .none) (c (k (j 0)) (c (t n) (c (k .none) (c (k (y Fe)) n))))))))) n)))) (C (H [g 11,g 12,g 13] (t (c (f (.st (.ref 633)) (c E (c (k .none) (c (v 10) n)))) (c (f (.st (.ref 486)) (c (k .none) (c (k (j 0)) (c (l n) (c (k .none) (c (v 10) n)))))) (c (f (.st (.ref 754)) (c (v 0) (c E (c (t n) n)))) n))))) (C (w (q .Is (v 8) (k .none)) (C (s (g 15) (L (t (c (v 27) (c (f (.st (.ref 655)) (c (k (y Tp)) (c (t (c (v 6) (c (v 7) (c (l n) (c (k .none) (c (v 27) n)))))) (c (v 11) n)))) n))) (.one 27) (l (c (k (y lB)) (c (k (y pY)) (c (k (y pZ)) n)))) n [11,7,6] [26,27])) (C (w (B false (q .IsNot (v 9) (k .none)) (q .NotEq (L (f (.st (.ref 765)) (c (v 0) (c (v 28) (c (v 6) (c (k .none) (c (v 27) n)))))) (.many [27,28]) (v 15) n [6,0] [26,27,28]) (b .Mult (l (c (k (y qw)) n)) (k (j 3))))) (C (A (k (.bool false))) N) N) (C (A (q .Eq (l (c (f (.st (.ref 426)) (c (v 0) (c (v 5) (c (v 6) (c (v 7) n))))) (c (f (.st (.ref 419)) (c (v 0) (c (v 6) (c (v 7) (c (k (.bool true)) n))))) (c (f (.st (.ref 419)) (c (v 0) (c (v 6) (c (v 7) (c (k (.bool false)) n))))) n)))) (b .Mult (l (c (k (.bool false)) n)) (k (j 3))))) N))) N) (C (H [g 16,g 17] (v 8)) (C (w (B false (q .Is (v 9) (k .none)) (B false (q .NotEq (a (v 9) oX) (v 16)) (q .NotEq (a (a (v 9) l0) mX) (a (i (v 2) (v 17)) mX)))) (C (A (k (.bool false))) N) N) (C (s (g 18) (q .Eq (v 16) (k (y kU)))) (C (s (g 19) (B false (v 18) (B true (q .Eq (v 16) (k (y mq))) (q .In (m (f (.st (.ref 1079)) n) oq (c (v 17) (c (v 17) n))) (i (v 3) (k (j 1))))))) (C (s (g 20) (l (c (t (c (k (y lB)) (c (v 11) (c (k (y lB)) (c (v 12) (c (v 19) n)))))) (c (t (c (k (y pY)) (c (v 11) (c (k (y pY)) (c (v 12) (c (k (.bool true)) n)))))) (c (t (c (k (y pZ)) (c (v 11) (c (k (y pZ)) (c (v 12) (c (k (.bool true)) n)))))) n))))) (C (s (g 20) (b .Add (v 20) (l (c (t (c (k (y lB)) (c (k .none) (c (k (y Aa)) (c (v 12) (c (v 18) n)))))) (c (t (c (k (y lB)) (c (k .none) (c (k (y lB)) (c (k .none) (c (v 18) n)))))) n))))) (C (F false (.many [14,21,22,23,24]) (v 20) (C (s (g 25) (f (.st (.ref 765)) (c (v 0) (c (f (.st (.ref 655)) (c (k (y Tp)) (c (t (c (v 6) (c (v 7) (c (l n) (c (k .none) (c (v 14) n)))))) (c (v 21) n)))) (c (v 6) (c (v 9) (c (v 14) n))))))) (C (w (B false (q .NotEq (v 25) (h (v 24) (k .none) (v 16))) (q .Eq (f (.st (.ref 526)) (c (v 13) (c (v 23) (c (f (.st (.ref 515)) (c (v 6) (c (v 7) (c (l n) (c (k .none) (c (v 22) n)))))) (c (v 9) n))))) (v 24))) (C (A (k (.bool false))) N) N) N))) (C (s (g 25) (l (c (f (.st (.ref 426)) (c (v 0) (c (v 5) (c (v 6) (c (v 7) n))))) (c (f (.st (.ref 419)) (c (v 0) (c (v 6) (c (v 7) (c (k (.bool true)) n))))) (c (f (.st (.ref 419)) (c (v 0) (c (v 6) (c (v 7) (c (k (.bool false)) n))))) n))))) (C (A (q .Eq (v 25) (l (c (v 19) (c (k (.bool true)) (c (v 18) n)))))) N))))))))))))
theorem alu:codeOf tab 1167 19=some (21,xU):=by kernel_rfl
def qg:jF:=C (H [g 1,g 2] (t (c (f (.st (.ref 1107)) (c (v 0) n)) (c (q .Lt (f (.st (.builtin "len")) (c (v 0) n)) (k (j 2))) n)))) (C (s (g 3) (f (.st (.ref 1140)) (c (v 1) (c (h (v 2) (k (j 2)) (k (j 5))) n)))) (C (s (g 4) (f (.st (.ref 1054)) (c (h (q .NotEq (i (v 3) (k (y lu))) (k (y kT))) (d (p (i (v 3) (k (y lu))) (d (p (i (v 3) (k (y nX))) (t (c (k .none) (c (k (j 0)) (c (k (j 0)) n)))) P)) P)) E) n))) (C (H [g 5,g 6] (f (.st (.ref 1145)) (c (v 4) (c (v 3) n)))) (C (H [g 7,g 8] (t (c E (c (i (v 3) (k (y nc))) n)))) (C (F false (.one 9) (f (.st (.ref 1086)) n) (C (s (g 10) (i (L (v 17) (.one 17) (i (f (.st (.ref 1093)) n) (v 9)) (c (q .In (v 17) (i (v 3) (k (y pW)))) n) [3] [16,17]) (k (j 0)))) (C (s (U (v 7) (v 9)) (f (.st (.ref 1157)) (c (v 3) (c (v 10) n)))) N))) (C (s (g 11) (L (v 17) (.one 17) (f (.st (.ref 1086)) n) (c (q .In (v 8) (i (v 7) (v 17))) n) [8,7] [16,17])) (C (F false (.one 12) (f (.st (.type "range")) (c (h (v 2) (k (j 2)) (b .Add (k (j 6)) (f (.st (.ref 1114)) (c (v 1) (c (k (j 5)) n))))) n)) (C (s (g 13) (h (B true (q .NotEq (v 11) (l n)) (q .Eq (b .Mod (v 12) (k (j 2))) (k (j 0)))) (v 11) (f (.st (.ref 1086)) n))) (C (s (g 14) (i (v 13) (f (.st (.ref 1114)) (c (v 1) (c (f (.st (.builtin "len")) (c (v 13) n)) n))))) (C (s (g 13) (h (q .Eq (b .Mod (v 12) (k (j 2))) (k (j 0))) (m (f (.st (.ref 1100)) n) oq (c (v 8) (c (f (.st (.ref 1086)) n) n))) (f (.st (.ref 1086)) n))) (C (s (g 15) (i (v 13) (f (.st (.ref 1114)) (c (v 1) (c (f (.st (.builtin "len")) (c (v 13) n)) n))))) (C (w (o (f (.st (.ref 1167)) (c (v 4) (c (v 3) (c (v 5) (c (t (c (i (v 6) (v 15)) (c (i (v 7) (v 15)) n))) (c (t (c (i (v 6) (v 14)) (c (i (v 7) (v 14)) n))) n))))))) (C (A (k (.bool false))) N) N) N)))))) (C (A (k (.bool true))) N))))))))
theorem alv:codeOf tab 1172 19=some (15,qg):=by kernel_rfl
end
end
section
variable{t it:X}{tg:Tg}{i u r' i' k K nn N j c c' nr ub al u9:Nat}{v p ps sc:PV}{vs l l':List PV}{nm g n h:Str}{as:Xs}{ls:List Nat}{jt η jB jA:AH}{a0 a1 a2 a3 a4 a5 a6 a7 a8 a9 mZ pg ph oB o5 pL vo xV AB p0 p1 p2 p3 p4 p5 p8 ry rz sr p6 p7 uD p9:Option PV}{P:QP}{e:Sl}{y:Int}{T:Tab}{o o':AO}{fs lb D:List (Str×PV)}{ss:jF}{bs:List Addr}{TI:Sl->AH->(Bool->AH->Prop)->Prop}{EM:Sl->AH->(AH->Prop)->Prop}{C:Cfg}{B:Bk}{tiny hk:Bool}{fl ml:Rows}{hl:pR}{L:List AO}
set_option backward.match.sparseCases false
section
abbrev QS:=Fl->Sl->AH->Prop
noncomputable abbrev QP:=PV->AH->Prop
@[reducible] noncomputable def Gg(k:Nat)(r:jF)(w:Nat)(Q:QS):QS:=λf e η=>match f with
 |.next=>WS k r w e η Q
 |.cont=>Q .cont e η
 |.ret v=>Q (.ret v) e η
@[reducible] noncomputable def W2(e:Sl)(Q:QS):QP:=λv η=>v=.none/\Q .next e η
@[reducible] noncomputable def W3(k:Nat)(t:Tt)(e:Sl)(Q:QS):QP:=λv η=>Wt k t v e η (Q .next)
@[reducible] noncomputable def alw(k:Nat)(t:List Tt)(e:Sl)(Q:QS):QP:=λv η=>∃l,v=.tup l/\l.length=t.length/\ux k t l e η (Q .next)
@[reducible] def W4(k:Nat)(a b:jF)(w:Nat)(e:Sl)(Q:QS):QP:=λu η=>∃c,ng u η=some c/\(c=true->WS k a w e η Q)/\(c=false->WS k b w e η Q)
@[reducible] def KFor(k:Nat)(rv:Bool)(tg:Tg)(b:jF)(w:Nat)(e:Sl)(Q:QS):QP:=λv η=>∃S,rU rv v η=some S/\o9 (λe η Q=>WS k b w e η Q) tg S (S.len η+1) 0 e η Q
@[reducible] noncomputable def W5(e:Sl)(Q:QS):QP:=λv η=>Q (.ret v) e η
@[reducible] def KAt(a:Str)(v:PV)(e:Sl)(Q:Sl->AH->Prop):QP:=λov η=>∃jt,sO tab ov a v η=some jt/\Q e jt
@[reducible] def alx(v:PV)(ov:PV)(e:Sl)(Q:Sl->AH->Prop):QP:=λkv η=>∃jt,nv ov kv v η=some jt/\Q e jt
@[reducible] def KIt(k:Nat)(i:X)(v:PV)(e:Sl)(Q:Sl->AH->Prop):QP:=λov η=>W k i e η (alx v ov e Q)
@[reducible] def KTs(k:Nat)(ts:List Tt)(vs:List PV)(Q:Sl->AH->Prop):Sl->AH->Prop:=λe η=>ux k ts vs e η Q
@[reducible] def Mk(v:PV)(Q:List PV->AH->Prop):List PV->AH->Prop:=λvs η=>Q (v::vs) η
@[reducible] noncomputable def KL(k:Nat)(r:Xs)(e:Sl)(Q:List PV->AH->Prop):QP:=λv η=>WL k r e η (Mk v Q)
@[reducible] def KP2(k:Nat)(r:Ps)(e:Sl)(acc:List (Str×PV))(x:Str)(Q:List (Str×PV)->AH->Prop):QP:=λv η=>WP k r e η (jN acc x v) Q
@[reducible] def KP(k:Nat)(b:X)(r:Ps)(e:Sl)(acc:List (Str×PV))(Q:List (Str×PV)->AH->Prop):QP:=λkv η=>∃x,kv=.str x/\W k b e η (KP2 k r e acc x Q)
@[reducible] def KT(k:Nat)(r:Xs)(e:Sl)(Q:Bool->AH->Prop):QP:=λu η=>∃b,ng u η=some b/\(b=true->TL k r e η Q)/\(b=false->Q false η)
@[reducible] def KB2(op:Operator)(x:PV)(Q:QP):QP:=λy η=>∃v jt,qZ op x y η=some (v,jt)/\Q v jt
@[reducible] def KB(k:Nat)(op:Operator)(b:X)(e:Sl)(Q:QP):QP:=λx η=>W k b e η (KB2 op x Q)
@[reducible] def KNo(Q:QP):QP:=λx η=>∃b,ng x η=some b/\Q (.bool (!b)) η
@[reducible] def aly(k:Nat)(c:Bool)(b:X)(e:Sl)(Q:QP):QP:=λx η=>∃t,ng x η=some t/\(t=c->W k b e η Q)/\(t=!c->Q x η)
@[reducible] def alz(k:Nat)(a b:X)(e:Sl)(Q:QP):QP:=λu η=>∃c,ng u η=some c/\(c=true->W k a e η Q)/\(c=false->W k b e η Q)
@[reducible] def W6(Q:QP):List (Str×PV)->AH->Prop:=λl η=>Q (.ref η.reg η.ju) (η.add (.sd l 0))
@[reducible] def alA(Q:QP):List PV->AH->Prop:=λvs η=>kY vs.length=true/\Q (.ref η.reg η.ju) (η.add (.list vs))
@[reducible] def alB(Q:QP):List PV->AH->Prop:=λvs η=>kY vs.length=true/\Q (.tup vs) η
@[reducible] def W7(op:CmpOp)(x:PV)(Q:QP):QP:=λy η=>∃c,nh op x y η=some c/\Q (.bool c) η
@[reducible] def KC(k:Nat)(op:CmpOp)(b:X)(e:Sl)(Q:QP):QP:=λx η=>W k b e η (W7 op x Q)
@[reducible] def KM2(k:Nat)(m:MS)(nm:Str)(Q:QP):List PV->AH->Prop:=λvs η=>WM k m nm vs η Q
@[reducible] def KM(k:Nat)(nm:Str)(as:Xs)(e:Sl)(Q:QP):QP:=λov η=>∃m,pN tab ov nm η=some m/\WL k as e η (KM2 k m nm Q)
@[reducible] def alC(k:Nat)(f:PV)(Q:QP):List PV->AH->Prop:=λvs η=>jw k f vs η Q
@[reducible] def W8(a:Str)(Q:QP):QP:=λov η=>∃v,kE tab ov a η=some v/\Q v η
@[reducible] def alD(ov:PV)(Q:QP):QP:=λkv η=>∃v jt,EF ov kv η=some (v,jt)/\Q v jt
@[reducible] def KTk(k:Nat)(x:X)(e:Sl)(Q:QP):QP:=λov η=>W k x e η (alD ov Q)
@[reducible] def alE(Q:QP):QP:=λov η=>∃v jt,Jo ov η=some (v,jt)/\Q v jt
@[reducible] def W9(ov:PV)(Q:QP):QP:=λkv η=>∃v,jR tab ov kv η=some v/\Q v η
@[reducible] def KI(k:Nat)(i:X)(e:Sl)(Q:QP):QP:=λov η=>W k i e η (W9 ov Q)
section
variable{w:Nat}
theorem apC{Q:QS}(h:Q .next e η):WS k .nil w e η Q:=h
theorem apD{s:St}{r:jF}{Q:QS}(h:W1 k s w e η (Gg k r w Q)):WS k (.cons s r) w e η Q:=h
theorem apE{x:X}{Q:QS}(h:W k x e η (W2 e Q)):W1 k (.expr x) w e η Q:=h
theorem apF{t:Tt}{x:X}{Q:QS}(h:W k x e η (W3 k t e Q)):W1 k (.asg t x) w e η Q:=h
theorem apG{t:List Tt}{x:X}{Q:QS}(h:W k x e η (alw k t e Q)):W1 k (.vf t x) w e η Q:=h
theorem apH{a b:jF}{Q:QS}(h:W k t e η (W4 k a b w e Q)):W1 k (.ite t a b) w e η Q:=h
theorem apI{rv:Bool}{b:jF}{Q:QS}(h:W k it e η (KFor k rv tg b w e Q)):W1 k (.for rv tg it b) w e η Q:=h
theorem apJ{b:jF}{Q:QS}(h:qL (λe η Q=>W k t e η Q) (λe η Q=>WS k b 0 e η Q) w e η Q):W1 k (.ri t b) w e η Q:=h
theorem apK{x:X}{Q:QS}(h:W k x e η (W5 e Q)):W1 k (.ret x) w e η Q:=h
theorem apL{Q:QS}(h:Q .cont e η):W1 k .cont w e η Q:=h
theorem apM{Q:Sl->AH->Prop}(h:Q (put e i (some v)) η):Wt k (.loc i) v e η Q:=h
theorem apN{o:X}{a:Str}{Q:Sl->AH->Prop}(h:W k o e η (KAt a v e Q)):Wt k (.nj o a) v e η Q:=h
theorem apO{o i:X}{Q:Sl->AH->Prop}(h:W k o e η (KIt k i v e Q)):Wt k (.nZ o i) v e η Q:=h
theorem apP{Q:Sl->AH->Prop}(h:Q e η):ux k [] [] e η Q:=h
theorem apQ{t:Tt}{ts:List Tt}{Q:Sl->AH->Prop}(h:Wt k t v e η (KTs k ts vs Q)):ux k (t::ts) (v::vs) e η Q:=h
theorem apR{Q:List PV->AH->Prop}(h:Q [] η):WL k .nil e η Q:=h
theorem apS{x:X}{r:Xs}{Q:List PV->AH->Prop}(h:W k x e η (KL k r e Q)):WL k (.cons x r) e η Q:=h
theorem apT{acc:List (Str×PV)}{Q:List (Str×PV)->AH->Prop}(h:Q acc η):WP k .nil e η acc Q:=h
theorem apU{a b:X}{r:Ps}{acc:List (Str×PV)}{Q:List (Str×PV)->AH->Prop}(h:W k a e η (KP k b r e acc Q)):WP k (.cons a b r) e η acc Q:=h
theorem apV{Q:Bool->AH->Prop}(h:Q true η):TL k .nil e η Q:=h
theorem apW{x:X}{r:Xs}{Q:Bool->AH->Prop}(h:W k x e η (KT k r e Q)):TL k (.cons x r) e η Q:=h
variable{Q:QP}
theorem w_k(h:Q v η):W k (.k v) e η Q:=h
theorem qh(h:look e i=some v)(q:Q v η):W k (.v i) e η Q:=⟨v,h,q⟩
theorem apX{op:Operator}{a b:X}(h:W k a e η (KB k op b e Q)):W k (.bin op a b) e η Q:=h
theorem apY{a:X}(h:W k a e η (KNo Q)):W k (.no a) e η Q:=h
theorem apZ{c:Bool}{a b:X}(h:W k a e η (aly k c b e Q)):W k (.wA c a b) e η Q:=h
theorem ap0{a b:X}(h:W k t e η (alz k a b e Q)):W k (.sX t a b) e η Q:=h
theorem ap1(h:Q (.ref η.reg η.ju) (η.add .jE)):W k .jE e η Q:=h
theorem w_dict{ps:Ps}(h:WP k ps e η [] (W6 Q)):W k (.dict ps) e η Q:=h
theorem ap2{es:Xs}(h:WL k es e η (alA Q)):W k (.list es) e η Q:=h
theorem ap3{es:Xs}(h:WL k es e η (alB Q)):W k (.tup es) e η Q:=h
theorem ap4{op:CmpOp}{a b:X}(h:W k a e η (KC k op b e Q)):W k (.cmp op a b) e η Q:=h
theorem ap5{o:X}(h:W k o e η (KM k nm as e Q)):W k (.mr o nm as) e η Q:=h
theorem w_call{f:PV}(h:WL k as e η (alC k f Q)):W k (.call f as) e η Q:=h
theorem ap6{o:X}{a:Str}(h:W k o e η (W8 a Q)):W k (.attr o a) e η Q:=h
theorem ap7{o x:X}(h:W k o e η (KTk k x e Q)):W k (.take o x) e η Q:=h
theorem w_rev{o:X}(h:W k o e η (alE Q)):W k (.rev o) e η Q:=h
theorem ap8{o i:X}(h:W k o e η (KI k i e Q)):W k (.item o i) e η Q:=h
theorem su{elt:X}{ifs:Xs}{fr:List Nat}(h:W k it e η λiv η=>∃S,t6 iv η=some S/\allB e fr=true/\pH (TL k ifs) (λe' jt Q'=>W k elt e' jt λv lC=>∃jD,xt η.reg η.ju v lC=some jD/\Q' jD) tg S (S.len η+1) 0 (clear e ls) (η.add (.list [])) (λjt=>Q (.ref η.reg η.ju) jt)):W k (.ve elt tg it ifs fr ls) e η Q:=h
theorem alF{key val:X}{ifs:Xs}{fr:List Nat}(h:W k it e η λiv η=>∃S,t6 iv η=some S/\allB e fr=true/\pH (TL k ifs) (λe' jt Q'=>W k key e' jt λkv lC=>W k val e' lC λv jD=>yC (jD.get η.reg η.ju)=true/\∃jV,nv (.ref η.reg η.ju) kv v jD=some jV/\Q' jV) tg S (S.len η+1) 0 (clear e ls) (η.add .jE) (λjt=>Q (.ref η.reg η.ju) jt)):W k (.Fs key val tg it ifs fr ls) e η Q:=h
theorem ap9{f:Addr}{o:PV}(h:jw k (.st (.ref f)) (o::vs) η Q):WM k (.fn f (some o)) nm vs η Q:=h
theorem qQ{r:Nat}(h:ua tab (.lst r i) nm vs η=some (v,jt))(q:Q v jt):WM k (.lst r i) nm vs η Q:=⟨v,jt,h,q⟩
theorem oE{r:Nat}(h:ua tab (.dct r i) nm vs η=some (v,jt))(q:Q v jt):WM k (.dct r i) nm vs η Q:=⟨v,jt,h,q⟩
end
theorem qR(u v:Option PV)(r:Sl):put (u::r) 0 v=v::r:=rfl
theorem qS(u v:Option PV)(r:Sl)(i:Nat):put (u::r) (i+1) v=u::put r i v:=rfl
section
variable{r:Sl}{Q:Sl->AH->Prop}
theorem aqa{x:Option PV}(h:let e':Sl:=a0::some v::r;Q e' η):Wt k (.loc 1) v (a0::x::r) η Q:=h
theorem aqb{x:Option PV}(h:let e':Sl:=a0::a1::some v::r;Q e' η):Wt k (.loc 2) v (a0::a1::x::r) η Q:=h
theorem aqc{x:Option PV}(h:let e':Sl:=a0::a1::a2::some v::r;Q e' η):Wt k (.loc 3) v (a0::a1::a2::x::r) η Q:=h
theorem aqd{x:Option PV}(h:let e':Sl:=a0::a1::a2::a3::some v::r;Q e' η):Wt k (.loc 4) v (a0::a1::a2::a3::x::r) η Q:=h
theorem aqe{x:Option PV}(h:let e':Sl:=a0::a1::a2::a3::a4::some v::r;Q e' η):Wt k (.loc 5) v (a0::a1::a2::a3::a4::x::r) η Q:=h
theorem aqf{x:Option PV}(h:let e':Sl:=a0::a1::a2::a3::a4::a5::some v::r;Q e' η):Wt k (.loc 6) v (a0::a1::a2::a3::a4::a5::x::r) η Q:=h
theorem aqg{x:Option PV}(h:let e':Sl:=a0::a1::a2::a3::a4::a5::a6::some v::r;Q e' η):Wt k (.loc 7) v (a0::a1::a2::a3::a4::a5::a6::x::r) η Q:=h
theorem aqh{x:Option PV}(h:let e':Sl:=a0::a1::a2::a3::a4::a5::a6::a7::some v::r;Q e' η):Wt k (.loc 8) v (a0::a1::a2::a3::a4::a5::a6::a7::x::r) η Q:=h
theorem aqi{x:Option PV}(h:let e':Sl:=a0::a1::a2::a3::a4::a5::a6::a7::a8::some v::r;Q e' η):Wt k (.loc 9) v (a0::a1::a2::a3::a4::a5::a6::a7::a8::x::r) η Q:=h
theorem aqj{x:Option PV}(h:let e':Sl:=a0::a1::a2::a3::a4::a5::a6::a7::a8::a9::some v::r;Q e' η):Wt k (.loc 10) v (a0::a1::a2::a3::a4::a5::a6::a7::a8::a9::x::r) η Q:=h
theorem aqk{x:Option PV}(h:let e':Sl:=a0::a1::a2::a3::a4::a5::a6::a7::a8::a9::mZ::some v::r;Q e' η):Wt k (.loc 11) v (a0::a1::a2::a3::a4::a5::a6::a7::a8::a9::mZ::x::r) η Q:=h
theorem aql{x:Option PV}(h:let e':Sl:=a0::a1::a2::a3::a4::a5::a6::a7::a8::a9::mZ::pg::some v::r;Q e' η):Wt k (.loc 12) v (a0::a1::a2::a3::a4::a5::a6::a7::a8::a9::mZ::pg::x::r) η Q:=h
theorem aqm{x:Option PV}(h:let e':Sl:=a0::a1::a2::a3::a4::a5::a6::a7::a8::a9::mZ::pg::ph::some v::r;Q e' η):Wt k (.loc 13) v (a0::a1::a2::a3::a4::a5::a6::a7::a8::a9::mZ::pg::ph::x::r) η Q:=h
theorem aqn{x:Option PV}(h:let e':Sl:=a0::a1::a2::a3::a4::a5::a6::a7::a8::a9::mZ::pg::ph::oB::some v::r;Q e' η):Wt k (.loc 14) v (a0::a1::a2::a3::a4::a5::a6::a7::a8::a9::mZ::pg::ph::oB::x::r) η Q:=h
theorem aqo{x:Option PV}(h:let e':Sl:=a0::a1::a2::a3::a4::a5::a6::a7::a8::a9::mZ::pg::ph::oB::o5::some v::r;Q e' η):Wt k (.loc 15) v (a0::a1::a2::a3::a4::a5::a6::a7::a8::a9::mZ::pg::ph::oB::o5::x::r) η Q:=h
theorem aqp{x:Option PV}(h:let e':Sl:=a0::a1::a2::a3::a4::a5::a6::a7::a8::a9::mZ::pg::ph::oB::o5::pL::some v::r;Q e' η):Wt k (.loc 16) v (a0::a1::a2::a3::a4::a5::a6::a7::a8::a9::mZ::pg::ph::oB::o5::pL::x::r) η Q:=h
theorem aqq{x:Option PV}(h:let e':Sl:=a0::a1::a2::a3::a4::a5::a6::a7::a8::a9::mZ::pg::ph::oB::o5::pL::vo::some v::r;Q e' η):Wt k (.loc 17) v (a0::a1::a2::a3::a4::a5::a6::a7::a8::a9::mZ::pg::ph::oB::o5::pL::vo::x::r) η Q:=h
theorem aqr{x:Option PV}(h:let e':Sl:=a0::a1::a2::a3::a4::a5::a6::a7::a8::a9::mZ::pg::ph::oB::o5::pL::vo::xV::some v::r;Q e' η):Wt k (.loc 18) v (a0::a1::a2::a3::a4::a5::a6::a7::a8::a9::mZ::pg::ph::oB::o5::pL::vo::xV::x::r) η Q:=h
theorem aqs{x:Option PV}(h:let e':Sl:=a0::a1::a2::a3::a4::a5::a6::a7::a8::a9::mZ::pg::ph::oB::o5::pL::vo::xV::AB::some v::r;Q e' η):Wt k (.loc 19) v (a0::a1::a2::a3::a4::a5::a6::a7::a8::a9::mZ::pg::ph::oB::o5::pL::vo::xV::AB::x::r) η Q:=h
theorem aqt{CZ x:Option PV}(h:let e':Sl:=a0::a1::a2::a3::a4::a5::a6::a7::a8::a9::mZ::pg::ph::oB::o5::pL::vo::xV::AB::CZ::some v::r;Q e' η):Wt k (.loc 20) v (a0::a1::a2::a3::a4::a5::a6::a7::a8::a9::mZ::pg::ph::oB::o5::pL::vo::xV::AB::CZ::x::r) η Q:=h
theorem aqu{CZ Xa Xb Xc Xd Xe x:Option PV}(h:let e':Sl:=a0::a1::a2::a3::a4::a5::a6::a7::a8::a9::mZ::pg::ph::oB::o5::pL::vo::xV::AB::CZ::Xa::Xb::Xc::Xd::Xe::some v::r;Q e' η):Wt k (.loc 25) v (a0::a1::a2::a3::a4::a5::a6::a7::a8::a9::mZ::pg::ph::oB::o5::pL::vo::xV::AB::CZ::Xa::Xb::Xc::Xd::Xe::x::r) η Q:=h
end
section
variable{w:Nat}
theorem aqv{t:Tt}{x:X}{r:jF}{Q:QS}(h:W k x e η (W3 k t e (Gg k r w Q))):WS k (.cons (.asg t x) r) w e η Q:=h
theorem aqw{a b r:jF}{Q:QS}(h:W k t e η (W4 k a b w e (Gg k r w Q))):WS k (.cons (.ite t a b) r) w e η Q:=h
theorem aqx{x:X}{r:jF}{Q:QS}(h:W k x e η (W5 e Q)):WS k (.cons (.ret x) r) w e η Q:=h
theorem aqy{x:X}{r:jF}{Q:QS}(h:W k x e η (W2 e (Gg k r w Q))):WS k (.cons (.expr x) r) w e η Q:=h
theorem aqz{r:Xs}{Q:List PV->AH->Prop}(h:look e i=some v)(q:WL k r e η (Mk v Q)):WL k (.cons (.v i) r) e η Q:=⟨v,h,q⟩
theorem aqA{Q:List PV->AH->Prop}(h:look e i=some v)(q:Q [v] η):WL k (.cons (.v i) .nil) e η Q:=⟨v,h,q⟩
theorem aqB{r:Xs}{Q:List PV->AH->Prop}(q:WL k r e η (Mk v Q)):WL k (.cons (.k v) r) e η Q:=q
theorem aqC{Q:List PV->AH->Prop}(q:Q [v] η):WL k (.cons (.k v) .nil) e η Q:=q
theorem aqD{o:PV}{a:Str}{Q:QP}(h:look e i=some o)(q:W8 a Q o η):W k (.attr (.v i) a) e η Q:=⟨o,h,q⟩
theorem aqE{o:PV}{Q:QP}(h:look e i=some o)(q:KM k nm as e Q o η):W k (.mr (.v i) nm as) e η Q:=⟨o,h,q⟩
theorem aqF{o c:PV}{Q:QP}(h:look e i=some o)(q:W9 o Q c η):W k (.item (.v i) (.k c)) e η Q:=⟨o,h,q⟩
theorem aqG{op:CmpOp}{o c:PV}{Q:QP}(h:look e i=some o)(q:W7 op o Q c η):W k (.cmp op (.v i) (.k c)) e η Q:=⟨o,h,q⟩
end
section
variable{f:PV}{Q:QP}{x:PV}{α:Type}{F:α->PV}
theorem jw.same(h:jw k f vs η λv jt=>v=x/\jt=η)(q:Q x η):jw k f vs η Q:=h.mono λ_ _ ⟨a,b⟩=>a▸b▸q
theorem jw.is1(h:jw k f vs η λv jt=>v=x/\P v jt)(m:∀jt,P x jt->Q x jt):jw k f vs η Q:=h.mono λ_ _ ⟨a,b⟩=>by subst a;exact m _ b
theorem jw.ny{R:QP}(h:jw k f vs η λv jt=>v=x/\P v jt/\R v jt)(m:∀jt,P x jt->R x jt->Q x jt):jw k f vs η Q:=h.mono λ_ _ ⟨a,b,c⟩=>by subst a;exact m _ b c
theorem jw.is3{R S:QP}(h:jw k f vs η λv jt=>v=x/\P v jt/\R v jt/\S v jt)(m:∀jt,P x jt->R x jt->S x jt->Q x jt):jw k f vs η Q:=h.mono λ_ _ ⟨a,b,c,d⟩=>by subst a;exact m _ b c d
theorem jw.AF{R:QP}(h:jw k f vs η λv jt=>P v jt/\R v jt)(m:∀v jt,P v jt->R v jt->Q v jt):jw k f vs η Q:=h.mono λ_ _ ⟨b,c⟩=>m _ _ b c
theorem jw.pM{R S:QP}(h:jw k f vs η λv jt=>P v jt/\R v jt/\S v jt)(m:∀v jt,P v jt->R v jt->S v jt->Q v jt):jw k f vs η Q:=h.mono λ_ _ ⟨b,c,d⟩=>m _ _ b c d
theorem jw.Xf{P R:α->QP}(h:jw k f vs η λv jt=>∃j,v=F j/\P j v jt/\R j v jt)(m:∀j jt,P j (F j) jt->R j (F j) jt->Q (F j) jt):jw k f vs η Q:=h.mono λ_ _ ⟨j,a,b,c⟩=>by subst a;exact m _ _ b c
theorem jw.Xg{P R S:α->QP}(h:jw k f vs η λv jt=>∃j,v=F j/\P j v jt/\R j v jt/\S j v jt)(m:∀j jt,P j (F j) jt->R j (F j) jt->S j (F j) jt->Q (F j) jt):jw k f vs η Q:=h.mono λ_ _ ⟨j,a,b,c,d⟩=>by subst a;exact m _ _ b c d
end
theorem xW{t:Sl->AH->(PV->AH->Prop)->Prop}{B:Sl->AH->(Fl->Sl->AH->Prop)->Prop}{w:Nat}{Q:Fl->Sl->AH->Prop}(h:t e η λu η=>∃c,ng u η=some c/\(c=true->B e η λf e η=>match f with
  |.ret v=>Q (.ret v) e η
  |_=>qL t B w e η Q)/\(c=false->Q .next e η)):qL t B (w+1) e η Q:=h
theorem jY{α:Type}{f:Option α}{Q:α->Prop}{v:α}(h:f=some v)(q:Q v):∃v,f=some v/\Q v:=⟨v,h,q⟩
theorem mC{α β:Type}{f:Option (α×β)}{Q:α->β->Prop}{v:α}{u:β}(h:f=some (v,u))(q:Q v u):∃v u,f=some (v,u)/\Q v u:=⟨v,u,h,q⟩
theorem aqH{i:Str}{Q:Str->Prop}(q:Q i):∃j,(.str i:PV)=.str j/\Q j:=⟨i,rfl,q⟩
theorem aqI{i:List PV}{Q:List PV->Prop}(q:Q i):∃j,(.tup i:PV)=.tup j/\Q j:=⟨i,rfl,q⟩
theorem Ml{f:Option Bool}{A B:Prop}(h:f=some true)(q:A):∃c,f=some c/\(c=true->A)/\(c=false->B):=⟨true,h,λJ=>q,λh=>nomatch h⟩
theorem Gh{f:Option Bool}{A B:Prop}(h:f=some false)(q:B):∃c,f=some c/\(c=true->A)/\(c=false->B):=⟨false,h,λh=>(nomatch h),λJ=>q⟩
theorem alG{b:Bool}{A B:Prop}(a:b=true->A)(c:b=false->B):∃c,some b=some c/\(c=true->A)/\(c=false->B):=⟨b,rfl,a,c⟩
theorem aqJ{f:Option Bool}{A B:Prop}(h:f=some true)(q:A):∃t,f=some t/\(t=true->A)/\(t=!true->B):=⟨true,h,λJ=>q,λh=>nomatch h⟩
theorem aqK{f:Option Bool}{A B:Prop}(h:f=some false)(q:B):∃t,f=some t/\(t=true->A)/\(t=!true->B):=⟨false,h,λh=>(nomatch h),λJ=>q⟩
theorem aqL{f:Option Bool}{A B:Prop}(h:f=some true)(q:B):∃t,f=some t/\(t=false->A)/\(t=!false->B):=⟨true,h,λh=>(nomatch h),λJ=>q⟩
theorem alH{f:Option Bool}{A B:Prop}(h:f=some false)(q:A):∃t,f=some t/\(t=false->A)/\(t=!false->B):=⟨false,h,λJ=>q,λh=>nomatch h⟩
theorem aqM{x:Int}{Q:Bool->Prop}(q:Q (decide (x=y))):∃c,nh .Eq (.int x) (.int y) η=some c/\Q c:=⟨_,rfl,q⟩
theorem aqN{x:Int}{Q:Bool->Prop}(q:Q (!decide (x=y))):∃c,nh .NotEq (.int x) (.int y) η=some c/\Q c:=⟨_,rfl,q⟩
theorem aqO{x:Int}{Q:Bool->Prop}(q:Q (decide (x<y))):∃c,nh .Lt (.int x) (.int y) η=some c/\Q c:=⟨_,rfl,q⟩
theorem aqP{x:Int}{Q:Bool->Prop}(q:Q (decide (y<x))):∃c,nh .Gt (.int x) (.int y) η=some c/\Q c:=⟨_,rfl,q⟩
theorem aqQ{b:Bool}{Q:Bool->Prop}(h:mJ v=b)(q:Q b):∃c,nh .Is v .none η=some c/\Q c:=⟨b,congrArg some h,q⟩
theorem aqR{b:Bool}{Q:Bool->Prop}(h:mJ v=b)(q:Q (!b)):∃c,nh .IsNot v .none η=some c/\Q c:=⟨!b,congrArg (λx=>some (!x)) h,q⟩
theorem aqS{a:List PV}{b:List Tt}{Q:Prop}(h:a.length=b.length)(q:Q):a.length=b.length/\Q:=⟨h,q⟩
theorem aqT{n:Nat}{Q:Prop}(h:kY n=true)(q:Q):kY n=true/\Q:=⟨h,q⟩
theorem aqU{Q:Bool->Prop}(h:ng v η=some true)(q:Q true):∃c,ng v η=some c/\Q c:=⟨_,h,q⟩
theorem aqV{Q:Bool->Prop}(h:ng v η=some false)(q:Q false):∃c,ng v η=some c/\Q c:=⟨_,h,q⟩
theorem aqW{op:CmpOp}{u:PV}{b:Bool}{Q:Bool->Prop}(h:nh op u v η=some b)(q:Q b):∃c,nh op u v η=some c/\Q c:=⟨_,h,q⟩
theorem aqX{o:PV}{a:Str}{Q:MS->Prop}{v:MS}(h:pN T o a η=some v)(q:Q v):∃v,pN T o a η=some v/\Q v:=⟨_,h,q⟩
theorem aqY{o:PV}{a:Str}{Q:PV->Prop}(h:kE T o a η=some v)(q:Q v):∃v,kE T o a η=some v/\Q v:=⟨_,h,q⟩
theorem aqZ{o a:PV}{Q:PV->Prop}(h:jR T o a η=some v)(q:Q v):∃v,jR T o a η=some v/\Q v:=⟨_,h,q⟩
theorem aq0{o:PV}{a:Str}{u:PV}{Q:AH->Prop}{v:AH}(h:sO T o a u η=some v)(q:Q v):∃v,sO T o a u η=some v/\Q v:=⟨_,h,q⟩
theorem aq1{o a u:PV}{Q:AH->Prop}{v:AH}(h:nv o a u η=some v)(q:Q v):∃v,nv o a u η=some v/\Q v:=⟨_,h,q⟩
theorem aq2{P Q:Prop}(h:P)(q:Q):P/\Q:=⟨h,q⟩
namespace AH
theorem oh(η:AH)(o:AO):(η.add o).reg=η.reg:=rfl
theorem nU(η:AH)(o:AO):(η.add o).ju=η.ju+1:=by unfold ju add;simp
theorem zg(η:AH)(r i:Nat)(o:AO):(η.set r i o).reg=η.reg:=by
 unfold set reg;split<;>simp
theorem AG(η:AH)(r i:Nat)(o:AO):(η.set r i o).ju=η.ju:=by
 unfold set ju;split<;>simp
theorem ka{r:Nat}(h:¬ (r'=r/\i'=i)):(η.set r i o).get r' i'=η.get r' i':=by
 cases hg:η.get r i with
|some u=>rw [get_set hg,if_neg h]
|none=>
  unfold get set at *
  by_cases hr:r=η.old.length
  ·rw [if_pos hr] at hg ⊢
   have hi:=fj.mp hg
   rw [ji hi]
  ·rw [if_neg hr] at hg ⊢
   simp only [iu]
   by_cases qT:r'=η.old.length
   ·rw [if_pos qT,if_pos qT]
   ·rw [if_neg qT,if_neg qT,iw]
    by_cases Xh:r=r'
    ·subst Xh
     cases hl:η.old[r]? with
    |none=>rfl
    |some l=>
      rw [hl] at hg
      have hi:=fj.mp (show l[i]?=none from hg)
      show (if r=r then l.set i o else l)[i']?=l[i']?
      rw [if_pos rfl,ji hi]
    ·simp [Xh]
theorem lG{r:Nat}(h:η.get r i=some o):(η.set r i o').get r i=some o':=by
 rw [get_set h,if_pos ⟨rfl,rfl⟩]
theorem qi{r:Nat}(h:η.get r i=some o)(hr:r=η.reg):i<η.ju:=by
 subst hr
 unfold get reg ju at *
 rw [if_pos rfl] at h
 exact (cY.mp h).1
theorem jT(η:AH)(o:AO):(η.add o).get η.reg η.ju=some o:=by rw [xq,if_pos ⟨rfl,rfl⟩]
theorem lz{r:Nat}(h:η.get r i=some o'):(η.add o).get r i=some o':=by
 rw [xq,if_neg,h]
 intro lX
 refine jP (lX) λpJ wF=>?_
 obtain rfl:=pJ
 obtain rfl:=wF
 rw [Eu] at h
 exact xn h
end AH
structure Ke(η jt:AH):Prop where
 reg:jt.reg=η.reg
 ju:η.ju<=jt.ju
 get:∀r i o,η.get r i=some o->jt.get r i=some o
theorem Ke.refl(η:AH):Ke η η:=⟨rfl,ak _,λJ J J h=>h⟩
theorem Ke.trans{a b c:AH}(h:Ke a b)(k:Ke b c):Ke a c:=⟨k.reg.trans h.reg,ah h.ju k.ju,λr i o e=>k.get _ _ _ (h.get _ _ _ e)⟩
theorem Ke.add{a b:AH}(h:Ke a b)(o:AO):Ke a (b.add o):=⟨h.reg,by rw [AH.nU];exact c9 h.ju,λr i o e=>AH.lz (h.get _ _ _ e)⟩
theorem Ke.set{a b:AH}(h:Ke a b){r:Nat}(hr:r=a.reg)(hi:a.ju<=i)(o:AO):Ke a (b.set r i o):=by
 refine ⟨by rw [AH.zg,h.reg],by rw [AH.AG];exact h.ju,λr' i' o' e=>?_⟩
 rw [AH.ka]
 ·exact h.get _ _ _ e
 ·rintro ⟨rfl,rfl⟩
  have:=AH.qi e hr
  exact PC hi this
theorem mh{n:Nat}(h:n<=65536):kY n=true:=dw.mpr h
theorem jQ{α β:Type}{o:Option α}{f:α->Option β}{a:α}{b:Option β}(h:o=some a)(k:f a=b):o.bind f=b:=h.symm▸k
theorem uE{α β:Type}{o:Option α}{f:α->β}{a:α}{b:Option β}(h:o=some a)(k:some (f a)=b):o.map f=b:=h.symm▸k
theorem lA{α:Type}{c:Bool}{x y z:α}(h:c=true)(k:x=z):cond c x y=z:=h.symm▸k
theorem cnf{α:Type}{c:Bool}{x y z:α}(h:c=false)(k:y=z):cond c x y=z:=h.symm▸k
theorem tu{a b:Bool}(h:a=true)(k:b=true):(a && b)=true:=h.symm▸k
section
variable{r:Nat}
theorem Gi{c:Addr}(h:η.get r i=some (.inst c fs)):η.ins r i=some (c,fs):=congrArg (λo:Option AO=>o.bind AO.ins) h
theorem oi(h:η.get r i=some (.list l)):η.lst r i=some l:=congrArg (λo:Option AO=>o.bind AO.lst) h
theorem Xi{l:List (Str×PV)}(h:η.get r i=some (.sd l u)):η.dct r i=some (l,u):=congrArg (λo:Option AO=>o.bind AO.dct) h
theorem C0{k:PV}(h:η.get r i=some o)(hl:o.lst=none)(hd:EC o k v=some o'):nv (.ref r i) k v η=some (η.set r i o'):=jQ (o:=gR (.ref r i)) rfl (jQ h (by
 dsimp only
 rw [hl]
 exact uE hd rfl))
theorem alI{l:List (Str×PV)}{x:Str}(hl:l.length<65536):EC (.sd l u) (.str x) v=some (.sd (jN l x v) (u+1)):=by
 show cond (kY (l.length+1)) _ none=_
 exact lA (mh hl) rfl
theorem zh{l:List (Str×PV)}{x:Str}(h:η.get r i=some (.sd l u))(hl:l.length<65536):nv (.ref r i) (.str x) v η=some (η.set r i (.sd (jN l x v) (u+1))):=C0 h rfl (alI hl)
theorem AI{x:Str}(h:η.get r i=some .jE):nv (.ref r i) (.str x) v η=some (η.set r i (.sd [(x,v)] 0)):=C0 h rfl rfl
theorem C6{op:Operator}{x z:Int}(h:Jl op x y=some z):qZ op (.int x) (.int y) η=some (.int z,η):=uE h rfl
theorem sy(h:η.get r i=some (.list l)):xt r i v η=cond (kY (l.length+1)) (some (η.set r i (.list (l++[v])))) none:=jQ (oi h) rfl
theorem Gj(h:¬ (r=r'/\i=i')):EE r i (.ref r' i')=true:=by
 show (!(aj r r' && aj i i'))=true
 exact (cM _).mpr (fu.mpr λz=>h (xb z λa b=>⟨aP a,aP b⟩))
end
end
local macro_rules |`(tactic| wtm_at $s:str)=>do
 let c:="r aqv aqw aqx aqy aqC aqB;v aqA aqz aqD aqE aqF aqG"
 let t:="r apD apC apE apF apG apH apI apJ apK apL apN apO apP apQ apR apS apT apU apV apW w_k apX apY apZ ap0 ap1 w_dict ap2 ap3 ap4 ap5 w_call ap6 ap7 w_rev ap8 ap9 aqM aqN aqO aqP aqH aqI;v qh;b aqJ aqK aqL alH Ml Gh aqU aqV aqT aqS;e aqX aqY aqZ aq0 aq1;q aqQ aqR aqW"
 let i:="i aqa aqb aqc aqd aqe aqf aqg aqh aqi aqj aqk aql aqm aqn aqo aqp aqq aqr aqs aqt aqu;r apM"
 let s:=s.getString
 let s:=if s == "w" then c++";"++t++";"++i else if s == "s" then t++";"++i else if s == "u" then c++";"++t else if s == "t" then t else s
 let l:=s.splitOn ";"
 if s == "W" then `(tactic| repeat' (wtm_at "w"))
 else if l.length != 1 then
  let a <-l.toArray.mapM λn=>`(tacticSeq| wtm_at $(Lean.quote n))
  `(tactic| first $[| $a]*)
 else
  let l:=s.splitOn " "
  let k:=l.headD ""
  let a <-l.tail.toArray.mapM λn=>do
   let i:=Lean.mkIdent (.mkSimple n)
   let t <-if k == "r" || k == "i" then `(tactic| refine $i ?_) else if k == "b" then `(tactic| refine $i ?_ ?_) else `(tactic| apply $i)
   let c <-if k == "r" then `(tactic| skip) else if k == "i" then `(tactic| intro _) else if k == "e" then `(tactic| with_reducible assumption) else if k == "q" then `(tactic| first|with_reducible assumption|rfl) else `(tactic| rfl)
   `(tacticSeq| ((with_reducible $t:tactic);$c:tactic))
  if a.isEmpty then Lean.Macro.throwUnsupported else `(tactic| first $[| $a]*)
local macro_rules |`(tactic| wtm_at "o")=>`(tactic| first|exact b5 rfl|omega)
theorem jw.Gk{f:PV}{Q:PV->AH->Prop}(h:k=K)(c:jw k f vs η Q):jw K f vs η Q:=h▸c
theorem jw.at{n:Nat}{a:Addr}{as:List PV}{Q:PV->AH->Prop}(w:Nat)(hc:codeOf tab a n=some (nn,ss))(hK:n+w+1<=K)(hm:MK.any (aj · a)=false)(hb:s7 tab a vs=some as)
  (hw:let e':=e;let q:=nK Q;WS (K - (n+w+1)) ss w e' η q) (he:pI as nn=e:=by (try dsimp only [pI,dW,bq,bW,bN])<;>rfl):jw K (.st (.ref a)) vs η Q:=
 jw.Gk (Ed hK) (jw.fn (k:=K - (n+w+1)) w hc hm hb (he▸hw))
theorem jw.wH(N:Nat){n:Nat}{a:Addr}{as:List PV}{Q:PV->AH->Prop}(w:Nat)(hc:codeOf tab a n=some (nn,ss))(hK:n+w+1<=K)(hm:MK.any (aj · a)=false)(hb:s7 tab a vs=some as)
  (hw:let e':=e;let q:=nK Q;WS (K - (n+w+1)) ss w e' η q) (he:pI as N=e:=by (try dsimp only [pI,dW,bq,bW,bN])<;>rfl):jw K (.st (.ref a)) vs η Q:=
 jw.Gk (Ed hK) (jw.fn (k:=K - (n+w+1)) w hc hm hb (he▸hw))
theorem jw.zj{n:Nat}{a c:Addr}{as:List PV}{Q:PV->AH->Prop}(w:Nat)(h1:jL tab.pV c=none)(h2:jL tab.oU c=some a)(hc:codeOf tab a n=some (nn,ss))(hK:n+w+1<=K)(hb:s7 tab a (.ref η.reg η.ju::vs)=some as)
  (hw:let e':=e;let q:=nK λv jt=>v=.none/\Q (.ref η.reg η.ju) jt;WS (K - (n+w+1)) ss w e' (η.add (.inst c [])) q) (he:pI as nn=e:=by (try dsimp only [pI,dW,bq,bW,bN])<;>rfl):jw K (.st (.ref c)) vs η Q:=
 jw.Gk (Ed hK) (jw.cls (k:=K - (n+w+1)) w h1 h2 hc hb (he▸hw))
theorem jw.nB{f:Value}{Q:PV->AH->Prop}(hK:1<=K)(hf:∀a,f≠.ref a)(h:qF tab f vs η=some (v,jt))(q:Q v jt):jw K (.st f) vs η Q:=
 jw.Gk (aa2 hK) (jw.blt (k:=K - 1) hf h q)
theorem jO{Q:PV->AH->Prop}(h:Q v η):nK Q (.ret v) e η:=h
theorem wI{Q:PV->AH->Prop}(h:Q .none η):nK Q .next e η:=h
def C7(η:AH)(v:PV)(c:Addr):Prop:=∃r i fs,v=.ref r i/\η.get r i=some (.inst c fs)
theorem alJ{r:Nat}{c:Addr}(hg:η.get r i=some (.inst c fs)):clsOf (.ref r i) η=some c:=congrArg (λo:Option AO=>(o.bind AO.ins).map az) hg
theorem Xj{r:Nat}{l:List (Str×PV)}(hg:η.get r i=some (.sd l u)):xr (.ref r i) η=some l:=congrArg (λo:Option AO=>(o.bind AO.dct).map az) hg
theorem Xk{r:Nat}{c:Addr}{f:String->Option Bool}{g:Addr->Option Bool}(hg:η.get r i=some (.inst c fs)):yF (.ref r i) η f g=g c:=congrArg (·.bind g) (alJ hg)
theorem Mm{c:Addr}{n:String}(h:C7 η v c)(hb:jL tab.bases c=some bs)(hn:(n == "bool" || n == "int" || n == "str")=true):qF tab (.builtin "isinstance") [v,.st (.type n)] η=some (.bool false,η):=by
 obtain ⟨r,i,fs,rfl,hg⟩:=h
 show (cond (n == "bool" || n == "int" || n == "str") (yF (.ref r i) η _ _) none).map _=_
 rw [hn,cond_true,Xk hg,hb]
 rfl
theorem Gl{c C:Addr}{Cv:List Addr}{b:Bool}(h:C7 η v c)(hb:jL tab.bases c=some bs)(hC:jL tab.bases C=some Cv)(e:bs.contains C=b):qF tab (.builtin "isinstance") [v,.st (.ref C)] η=some (.bool b,η):=by
 obtain ⟨r,i,fs,rfl,hg⟩:=h
 show (cond (jL tab.bases C).isSome (yF (.ref r i) η _ _) none).map _=_
 rw [hC,Xk hg,hb,<-e]
 rfl
theorem AJ:jL tab.bases 226=some [226,38]:=by kernel_rfl
theorem Gm:jL tab.bases 38=some [38]:=by kernel_rfl
theorem Xl{c:Addr}(hK:10<=K)(h:C7 η v c)(hb:jL tab.bases c=some bs):jw K (.st (.ref 265)) [v] η λu jt=>u=.str JX/\jt=η:=by
 have hn:mJ v=false:=by obtain ⟨r,i,fs,rfl,_⟩:=h;rfl
 refine jw.le (k:=10) ?_ hK
 refine jw.at (as:=[v]) 0 V5 (by wtm_at "o") rfl (by kernel_rfl) ?_;intro _ _
 unfold Mf
 wtm_at "W"
 ·refine jw.nB (by wtm_at "o") (by intro _ h;cases h) (Mm h hb rfl) ?_
  wtm_at "W"
  refine jw.nB (by wtm_at "o") (by intro _ h;cases h) (Mm h hb rfl) ?_
  wtm_at "W"
  refine jw.nB (by wtm_at "o") (by intro _ h;cases h) (Mm h hb rfl) ?_
  wtm_at "W"
  exact ⟨rfl,rfl⟩
section
set_option genCtorIdx false in
structure Cfg where
 ns:List Str
 kQ:Str->Nat
 num:Str->Int
 cls:Str->Bool
 jJ:Str->Option Str
 nj:Str->Bool
 own:Str->Option Str
 owner:Str->Str
 nat:Str->PV
 front:Str->List Str
 mix:Str->List Str
 nD:Str->Nat
 nq:Str->Nat
 kX:Str->Nat
 has:Str->Option (Str×Str×Str)
 name:Str
 native:Str
 line:Str->List Str
 depth:Str->Nat
 rank:Str->Nat
 jW:Nat
 pS:Int
 tB:Nat
 C8:Nat
 sC:Nat
 made:Nat
 fix:Nat->Option AO
namespace Cfg
noncomputable def m(C:Cfg)(n:Str):PV:=.ref 1 (C.kQ n)
def opt(C:Cfg):Option Str->PV
|none=>.none
|some n=>C.m n
noncomputable def visit(C:Cfg):Nat->List Str×List Str->Str->List Str×List Str
|0,s,_=>s
|f+1,s,g=>if g∈s.2 then s else
  let t:=(C.front g).reverse.foldl (C.visit f) (s.1,s.2++[g])
  (C.mix g).reverse.foldl (C.visit f) (t.1++[g],t.2)
def nE(C:Cfg)(n:Str):List Str:=(C.visit 3 ([],[]) n).1
noncomputable def pn(n:Str)(behind:List Str):Bool->List Str->List Str
|_,[]=>[]
|a,g::r=>let b:=a && !decide (g=n)
  if b=true\/g∉behind then g::pn n behind b r else pn n behind b r
def pA(C:Cfg)(n:Str)(behind:List Str):List Str:=
 if C.front n=[]/\C.mix n=[] then n::behind else
  let f:=pn n behind true (C.nE n)
  f++behind.filter λg=>decide (g∉f)
end Cfg
def zk(nm:Str)(o:PV)(s:Str)(ps b:PV)(g:Str):List (Str×PV):=[(nX,.str nm),(l0,o),(rZ,.str s),(yQ,ps),(yN,b),(oX,.str g),(u6,.tup []),(u0,.none),(uZ,.none)]
structure lS(C:Cfg):Prop where
 jJ:∀n∈C.ns,∀p,C.jJ n=some p->p∈C.ns/\C.depth p<C.depth n
 deep:∀n∈C.ns,C.depth n<10
 Gn:∀n∈C.ns,C.nj n=true->∃p,C.jJ n=some p
 own:∀n∈C.ns,∀p,C.own n=some p->p∈C.ns
 owner:∀n∈C.ns,C.owner n∈C.ns
 front:∀n∈C.ns,∀g∈C.front n,g∈C.ns/\C.rank g<C.rank n
 mix:∀n∈C.ns,∀g∈C.mix n,g∈C.ns/\C.rank g<C.rank n
 few:C.ns.length<=40
 rank:∀n∈C.ns,C.rank n<=2
 Xm:∀n∈C.ns,∀g,(g∈C.front n\/g∈C.mix n)->C.jJ g=none
 AK:∀n∈C.ns,(C.front n).length<=2
 AP:∀n∈C.ns,(C.mix n).length<=2
 line:∀n∈C.ns,C.line n=C.pA n (match C.jJ n with|none=>[]|some p=>C.line p)
 AQ:∀a∈C.ns,∀b∈C.ns,C.num a=C.num b->a=b
 Gp:∀a∈C.ns,∀b∈C.ns,C.kQ a=C.kQ b->a=b
 AR:∀a∈C.ns,∀b∈C.ns,C.kX a=C.kX b->a=b
 Xn:∀n∈C.ns,C.fix (C.kQ n)=none
 Xo:∀n∈C.ns,C.fix (C.kX n)=none
 AU:∀n∈C.ns,C.fix (C.nq n)=some (.list ((C.mix n).map C.m))
 AV:∀n∈C.ns,C.fix (C.nD n)=some (.list ((C.front n).map C.m))
 jW:∃ws,C.fix C.jW=some (.inst 1054 ws)/\jv ws sW=some (.int C.pS)/\jv ws wu=some (.ref 1 C.tB)/\jv ws wz=some (.ref 1 C.sC)/\jv ws ur=some (.ref 1 C.made)/\jv ws rY=none/\jv ws wi=none/\jv ws pG=none/\jv ws yP=none/\jv ws uw=none
 made:∃l u,C.fix C.made=some (.sd l u)/\jv l kG=some (C.m kG)/\jv l kH=some (C.m kH)
 Mp:kG∈C.ns/\kH∈C.ns
 sC:C.fix C.sC=some .jE
 tB:(C.native=kT/\C.fix C.tB=some .jE)\/(C.native≠kT/\∃u u',C.fix C.tB=some (.sd [(C.native,.ref 1 C.C8)] u)/\C.fix C.C8=some (.sd [(C.name,.tup [.none,.int 0,.int 0])] u'))
 Mq:∀n∈C.ns,C.nat n=.none\/∃x,C.nat n=.str x/\(x=C.native\/(sq C.native x=false))
 Xp:∀n∈C.ns,C.has n=none->C.native=kT\/C.nat n≠.str C.native
 o8:∀n∈C.ns,∀s g o,C.has n=some (s,g,o)->o∈C.ns/\(s=sV\/s=nH\/s=lN\/(s=lu/\o=n/\C.native≠kT/\C.nat n=.str C.native/\g=(if C.name=uq\/(C.native=kO/\C.name=uv) then nQ else kU)))
 names:C.name=Cu\/C.name=uv\/C.name=uq
 wJ:C.native=kT\/C.native=kO\/C.native=kG\/C.native=kH
def C9(C:Cfg)(η:AH)(n:Str)(kv:PV):Prop:=kv=.none\/∃i,kv=.tup [.int C.pS,.ref 2 i]/\η.get 2 i=some (.list ((C.line n).map C.m))
structure Gq(C:Cfg)(η:AH)(n:Str)(fs:List (Str×PV)):Prop where
 number:jv fs mX=some (.int (C.num n))
 xX:jv fs rW=some (.bool (C.cls n))
 parent:jv fs rg=some (C.opt (C.jJ n))
 attached:∃v,jv fs uY=some v/\mJ v=!C.nj n/\oK v=true
 own:jv fs nY=some (C.opt (C.own n))
 owner:jv fs l0=some (C.m (C.owner n))
 native:jv fs lu=some (C.nat n)
 mixed:jv fs mW=some (.ref 1 (C.nq n))
 ahead:jv fs sS=some (.ref 1 (C.nD n))
 methods:jv fs q9=some (.ref 1 (C.kX n))
 kept:∃kv,jv fs nP=some kv/\C9 C η n kv
 Dc:jv fs wk=none
 len:fs.length=17
def lI(C:Cfg)(η:AH)(v:PV)(s g o:Str):Prop:=∃r i c b,v=.ref r i/\η.get r i=some (.inst c (zk C.name (C.m o) s .none b g))/\(c=254\/c=333)/\oK b=true
def uF(C:Cfg)(η:AH)(n:Str):Prop:=match C.has n with
|none=>η.get 1 (C.kX n)=some .jE
|some (s,g,o)=>(∃l u v,η.get 1 (C.kX n)=some (.sd l u)/\jv l C.name=some v/\lI C η v s g o)\/(s=lu/\η.get 1 (C.kX n)=some .jE)
structure WF(C:Cfg)(η:AH):Prop where
 reg:η.reg=2
 mod:∀n∈C.ns,∃fs,η.get 1 (C.kQ n)=some (.inst 226 fs)/\Gq C η n fs
 mr:∀n∈C.ns,uF C η n
 fix:∀i o,C.fix i=some o->η.get 1 i=some o
section
theorem C9.ke(h:∀i o,η.get 2 i=some o->jt.get 2 i=some o){kv:PV}(k:C9 C η n kv):C9 C jt n kv:=by
 rcases k with k|⟨i,a,b⟩
 ·exact .inl k
 ·exact .inr ⟨i,a,h _ _ b⟩
theorem Gq.ke(h:∀i o,η.get 2 i=some o->jt.get 2 i=some o)(k:Gq C η n fs):Gq C jt n fs:=
 ⟨k.number,k.xX,k.parent,k.attached,k.own,k.owner,k.native,k.mixed,k.ahead,k.methods,by obtain ⟨kv,a,b⟩:=k.kept;exact ⟨kv,a,b.ke h⟩,k.Dc,k.len⟩
theorem lI.ke(h:∀r i c fs,(c=254\/c=333)->η.get r i=some (.inst c fs)->jt.get r i=some (.inst c fs)){s o:Str}(k:lI C η v s g o):lI C jt v s g o:=by
 refine Es (k) λr i c b e g hc hb=>?_
 exact Qy r i c b e (h _ _ _ _ hc g) hc hb
theorem uF.ke(h:∀r i c fs,(c=254\/c=333)->η.get r i=some (.inst c fs)->jt.get r i=some (.inst c fs))(hm:∀o,η.get 1 (C.kX n)=some o->jt.get 1 (C.kX n)=some o)(k:uF C η n):uF C jt n:=by
 unfold uF at *
 split at k
 ·exact hm _ k
 ·rcases k with ⟨l,u,v,a,b,c⟩|⟨a,b⟩
  ·exact .inl ⟨l,u,v,hm _ a,b,c.ke h⟩
  ·exact .inr ⟨a,hm _ b⟩
theorem WF.ke(h:Ke η jt)(W:WF C η):WF C jt where
 reg:=h.reg.trans W.reg
 mod n hn:=by obtain ⟨fs,a,b⟩:=W.mod n hn;exact ⟨fs,h.get _ _ _ a,b.ke λJ J e=>h.get _ _ _ e⟩
 mr n hn:=(W.mr n hn).ke (λJ J J J J e=>h.get _ _ _ e) λJ e=>h.get _ _ _ e
 fix i o e:=h.get _ _ _ (W.fix i o e)
theorem tC:jL tab.fields 226=some [sS,uY,Fc,rW,nP,q9,mW,nX,lu,z9,rg,z5,z6,z8,mX,nY,l0]:=by kernel_rfl
theorem tD{r:Nat}{c:Addr}{ns:List Str}{a:Str}(h:η.get r i=some (.inst c fs))(hf:jL tab.fields c=some ns)(ha:o8 ns a=true)(hp:jv fs a=some p)(hh:oK p=true):kE tab (.ref r i) a η=some p:=jQ (o:=gR (.ref r i)) rfl (jQ (Gi h) (jQ hf (lA ha (jQ hp (lA hh rfl)))))
theorem Mr(o:Option Str):oK (C.opt o)=true:=by cases o<;>rfl
variable(W:WF C η)(hn:n∈C.ns)
include W hn
theorem WF.number:kE tab (C.m n) mX η=some (.int (C.num n)):=by
 refine jZ (W.mod n hn) λfs a b=>?_
 exact tD a tC (by decide +kernel) b.number rfl
theorem WF.xX:kE tab (C.m n) rW η=some (.bool (C.cls n)):=by
 refine jZ (W.mod n hn) λfs a b=>?_
 exact tD a tC (by decide +kernel) b.xX rfl
theorem WF.parent:kE tab (C.m n) rg η=some (C.opt (C.jJ n)):=by
 refine jZ (W.mod n hn) λfs a b=>?_
 exact tD a tC (by decide +kernel) b.parent (Mr _)
theorem WF.own:kE tab (C.m n) nY η=some (C.opt (C.own n)):=by
 refine jZ (W.mod n hn) λfs a b=>?_
 exact tD a tC (by decide +kernel) b.own (Mr _)
theorem WF.owner:kE tab (C.m n) l0 η=some (C.m (C.owner n)):=by
 refine jZ (W.mod n hn) λfs a b=>?_
 exact tD a tC (by decide +kernel) b.owner rfl
theorem WF.mixed:kE tab (C.m n) mW η=some (.ref 1 (C.nq n)):=by
 refine jZ (W.mod n hn) λfs a b=>?_
 exact tD a tC (by decide +kernel) b.mixed rfl
theorem WF.ahead:kE tab (C.m n) sS η=some (.ref 1 (C.nD n)):=by
 refine jZ (W.mod n hn) λfs a b=>?_
 exact tD a tC (by decide +kernel) b.ahead rfl
theorem WF.methods:kE tab (C.m n) q9 η=some (.ref 1 (C.kX n)):=by
 refine jZ (W.mod n hn) λfs a b=>?_
 exact tD a tC (by decide +kernel) b.methods rfl
theorem WF.native(C':lS C):kE tab (C.m n) lu η=some (C.nat n):=by
 refine jZ (W.mod n hn) λfs a b=>?_
 refine tD a tC (by decide +kernel) b.native ?_
 rcases C'.Mq n hn with e|⟨x,e,_⟩<;>rw [e]<;>rfl
theorem WF.attached:∃v,kE tab (C.m n) uY η=some v/\mJ v=!C.nj n:=by
 refine jZ (W.mod n hn) λfs a b=>?_
 refine vV (b.attached) λv e f g=>?_
 exact ⟨v,tD a tC (by decide +kernel) e g,f⟩
theorem WF.kept:∃v,kE tab (C.m n) nP η=some v/\C9 C η n v:=by
 refine jZ (W.mod n hn) λfs a b=>?_
 refine jZ (b.kept) λv e f=>?_
 refine ⟨v,tD a tC (by decide +kernel) e ?_,f⟩
 rcases f with rfl|⟨i,rfl,_⟩<;>rfl
theorem WF.inst:C7 η (C.m n) 226:=by
 refine jZ (W.mod n hn) λfs a b=>?_
 exact aeZ _ _ fs rfl a
end
end
section
section
variable{w:Nat}{b:jF}
@[reducible] noncomputable def AW(Q:QS)(G:Sl->AH->Prop):QS:=λfl e η=>match fl with
|.ret v=>Q (.ret v) e η
|_=>G e η
theorem Gr{α:Type}{f:α->PV}{all:List α}{S:Src}{Q:QS}{Inv:List α->Sl->AH->Prop}(hI:∀d t e η,all=d++t->Inv d e η->S.at d.length η=some (t.head?.map f))
  (step:∀d x t e η,all=d++x::t->Inv d e η->∀G:Sl->AH->Prop,(∀e η,Inv (d++[x]) e η->G e η)->∃e',tg.bind (f x) e=some e'/\WS k b w e' η (AW Q G))
  (fin:∀e η,Inv all e η->Q .next e η) {t:List α}:∀(d:List α) (n:Nat) (e:Sl) (η:AH),all=d++t->t.length<n->Inv d e η->o9 (λe η Q=>WS k b w e η Q) tg S n d.length e η Q:=by
 induction t with
|nil=>exact λd n e η ha hn I=>match n,hn with
 |n+1,_=>⟨none,hI d [] e η ha I,fin _ _ ((ha.trans (bU d))▸I)⟩
|cons x t ih=>exact λd n e η ha hn I=>match n,hn with
 |n+1,hn=>(step d x t e η ha I _ λe η I=>(congrArg (λm=>o9 _ tg S n m e η Q) (aE (as:=d) (bs:=[x]))).mp (ih (d++[x]) n e η (ha.trans (bQ d [x] t).symm) (cj hn) I)).elim λe' z=>⟨some (f x),hI d (x::t) e η ha I,e',z⟩
theorem Xq{α:Type}{f:α->PV}{all:List α}{S:Src}{Q:AH->Prop}{Inv:List α->Sl->AH->Prop}(hI:∀d t e η,all=d++t->Inv d e η->S.at d.length η=some (t.head?.map f))
  (step:∀d x t e η,all=d++x::t->Inv d e η->∀G:Sl->AH->Prop,(∀e η,Inv (d++[x]) e η->G e η)->∃e',tg.bind (f x) e=some e'/\TI e' η λb η=>(b=true->EM e' η (G e'))/\(b=false->G e' η))
  (fin:∀e η,Inv all e η->Q η) {t:List α}:∀(d:List α) (n:Nat) (e:Sl) (η:AH),all=d++t->t.length<n->Inv d e η->pH TI EM tg S n d.length e η Q:=by
 induction t with
|nil=>exact λd n e η ha hn I=>match n,hn with
 |n+1,_=>⟨none,hI d [] e η ha I,fin _ _ ((ha.trans (bU d))▸I)⟩
|cons x t ih=>exact λd n e η ha hn I=>match n,hn with
 |n+1,hn=>(step d x t e η ha I _ λe η I=>(congrArg (λm=>pH TI EM tg S n m e η Q) (aE (as:=d) (bs:=[x]))).mp (ih (d++[x]) n e η (ha.trans (bQ d [x] t).symm) (cj hn) I)).elim λe' z=>⟨some (f x),hI d (x::t) e η ha I,e',z⟩
theorem Ms{α:Type}{f:α->PV}{all d t:List α}(h:all=d++t):(all.map f)[d.length]?=t.head?.map f:=by
 rw [h,cQ,fB (ak _),gh]
 cases t<;>rfl
theorem Xr{α:Type}{f:α->PV}{all d t:List α}{r:Nat}(hl:all.length<=65536)(h:η.get r i=some (.list (all.map f)))(ha:all=d++t):(Src.lst r i).at d.length η=some (t.head?.map f):=
 jQ (oi h) (lA (mh ((aC ..).symm▸hl)) (congrArg some (Ms ha)))
theorem Xu{α:Type}(f:α->PV)(all:List α){r:Nat}(hl:all.length<=65536){Q:QS}(Inv:List α->Sl->AH->Prop)
  (hI:∀d e η,Inv d e η->η.get r i=some (.list (all.map f))) (h0:Inv [] e η)
  (step:∀d x t e η,all=d++x::t->Inv d e η->∀G:Sl->AH->Prop,(∀e η,Inv (d++[x]) e η->G e η)->∃e',tg.bind (f x) e=some e'/\WS k b w e' η (AW Q G))
  (fin:∀e η,Inv all e η->Q .next e η):∃S,rU false (.ref r i) η=some S/\o9 (λe η Q=>WS k b w e η Q) tg S (S.len η+1) 0 e η Q:=
 have h:=hI _ _ _ h0
 ⟨.lst r i,jQ h rfl,Gr (λd t e η ha I=>Xr hl (hI _ _ _ I) ha) step fin [] _ e η rfl (cg (aq ((aC f).symm.trans (congrArg (λo:Option (List PV)=>(o.getD []).length) (oi h)).symm))) h0⟩
theorem comp_map{α:Type}(f:α->PV)(all:List α){r:Nat}(hl:all.length<=65536){Q:AH->Prop}(Inv:List α->Sl->AH->Prop)
  (hI:∀d e η,Inv d e η->η.get r i=some (.list (all.map f)))
  (step:∀d x t e η,all=d++x::t->Inv d e η->∀G:Sl->AH->Prop,(∀e η,Inv (d++[x]) e η->G e η)->∃e',tg.bind (f x) e=some e'/\TI e' η λb η=>(b=true->EM e' η (G e'))/\(b=false->G e' η))
  (fin:∀e η,Inv all e η->Q η) (h0:Inv [] e η):pH TI EM tg (.lst r i) (all.length+1) 0 e η Q:=
 Xq (λd t e η ha I=>Xr hl (hI _ _ _ I) ha) step fin [] _ e η rfl (bG _) h0
theorem tE{r:Nat}(h:η.get r i=some (.list l)):t6 (.ref r i) η=some (.lst r i):=jQ h rfl
theorem tF{r:Nat}(h:η.get r i=some (.list l)):(Src.lst r i).len η=l.length:=congrArg (λo:Option (List PV)=>(o.getD []).length) (oi h)
theorem AX{α ι:Type}(f:α->PV)(all:List α){r:Nat}(hl:all.length<=65536){Q:QS}(E:ι->Sl)(Inv:List α->ι->AH->Prop)(x0:ι)(he:e=E x0)
  (hI:∀d x η,Inv d x η->η.get r i=some (.list (all.map f))) (h0:Inv [] x0 η)
  (step:∀d a t x η,all=d++a::t->Inv d x η->∀G:Sl->AH->Prop,(∀x η,Inv (d++[a]) x η->G (E x) η)->∃e',tg.bind (f a) (E x)=some e'/\WS k b w e' η (AW Q G))
  (fin:∀x η,Inv all x η->let e1:=E x;Q .next e1 η):∃S,rU false (.ref r i) η=some S/\o9 (λe η Q=>WS k b w e η Q) tg S (S.len η+1) 0 e η Q:=
 Xu f all hl (λd e η=>∃x,e=E x/\Inv d x η) (λd e η h=>h.elim λx h=>hI d x η h.2) ⟨x0,he,h0⟩ (λd a t e η ha h G q=>h.elim λx h=>h.1▸step d a t x η ha h.2 G λx η I=>q _ _ ⟨x,rfl,I⟩) (λe η h=>h.elim λx h=>h.1▸fin x η h.2)
theorem uG{α ι:Type}(f:α->PV)(all:List α){r:Nat}(hl:all.length<=65536){Q:AH->Prop}(E:ι->Sl)(Inv:List α->ι->AH->Prop)(x0:ι)(he:e=E x0)
  (hI:∀d x η,Inv d x η->η.get r i=some (.list (all.map f))) (h0:Inv [] x0 η)
  (step:∀d a t x η,all=d++a::t->Inv d x η->∀G:Sl->AH->Prop,(∀x η,Inv (d++[a]) x η->G (E x) η)->∃e',tg.bind (f a) (E x)=some e'/\TI e' η λb η=>(b=true->EM e' η (G e'))/\(b=false->G e' η))
  (fin:∀x η,Inv all x η->Q η):pH TI EM tg (.lst r i) (all.length+1) 0 e η Q:=
 comp_map f all hl (λd e η=>∃x,e=E x/\Inv d x η) (λd e η h=>h.elim λx h=>hI d x η h.2) (λd a t e η ha h G q=>h.elim λx h=>h.1▸step d a t x η ha h.2 G λx η I=>q _ _ ⟨x,rfl,I⟩) (λe η h=>h.elim λx h=>fin x η h.2) ⟨x0,he,h0⟩
theorem alK{n:Nat}(h:n<=65536)(e:AH):t6 (.mU 0 n) e=some (.mU 0 n):=by
 exact lA (tu (tu rfl (decide_eq_true BH)) (decide_eq_true (OY h))) rfl
theorem Gs{ι:Type}{n:Nat}(hn:n<=65536){Q:QS}(E:ι->Sl)(Inv:Nat->ι->AH->Prop)(x0:ι)(he:e=E x0)(h0:Inv 0 x0 η)
  (step:∀j t x η,n=j+(t+1)->Inv j x η->∀G:Sl->AH->Prop,(∀x η,Inv (j+1) x η->G (E x) η)->∃e',tg.bind (.int j) (E x)=some e'/\WS k b w e' η (AW Q G))
  (fin:∀x η,Inv n x η->let e1:=E x;Q .next e1 η):∃S,rU false (.mU 0 n) η=some S/\o9 (λe η Q=>WS k b w e η Q) tg S (S.len η+1) 0 e η Q:=by
 have ln:=List.length_range (n:=n)
 refine ⟨.mU 0 n,alK hn η,Gr (f:=λj:Nat=>.int j) (all:=aX n) (Inv:=λd e η=>∃x,e=E x/\Inv d.length x η) (λd t e η ha J=>?_) (λd a t e η ha h G q=>?_) (λe η h=>h.elim λx h=>h.1▸fin x η (ln▸h.2)) [] _ e η rfl ?_ ⟨x0,he,h0⟩⟩
 ·show some (cond (decide ((0:Int)+d.length<n)) (some (PV.int (0+d.length))) none)=_
  rw [ha,aE] at ln
  rw [Int.zero_add,<-ln]
  cases t with
 |nil=>rw [decide_eq_false (by simp)];rfl
 |cons x t=>
   have hx:(aX n)[d.length]?=some x:=by rw [ha];simp
   rw [gE (by rw [<-ln];exact bf (bO _))] at hx
   rw [show decide ((d.length:Int)<((d.length+(x::t).length:Nat):Int))=true from decide_eq_true (aS.mpr (bf (bO _))),ai hx]
   rfl
 ·refine h.elim λx h=>?_
  have hl:n=d.length+(t.length+1):=by rw [<-ln,ha,aE];rfl
  have hx:(aX n)[d.length]?=some a:=by rw [ha];simp
  rw [gE (by rw [hl];exact bf (bO _))] at hx
  rw [h.1,<-ai hx]
  exact step d.length t.length x η hl h.2 G λx η I=>q _ _ ⟨x,rfl,(aE (as:=d) (bs:=[a])).symm▸I⟩
 ·refine cg (aq (ln.trans ?_))
  exact (congrArg Int.toNat (Int.sub_zero (n:Int))).symm
noncomputable abbrev Jk:=Nat->Option PV
theorem Xv{x:X}{Xw:Sl}{Q:QP}(h:let e':=Xw;let q:=Q;W k x e' η q)(he:e=Xw):W k x e η Q:=he▸h
theorem Xx{α ι:Type}(f:α->PV)(all:List α){r:Nat}(hl:all.length<=65536){elt:X}{fr:List Nat}{Q:QP}(E:ι->Sl)(Inv:List α->ι->AH->Prop)(x0:ι){g:Nat}(mR:η.reg=g)(hg:η.get r i=some (.list (all.map f)))(wK:allB e fr=true)(he:clear e ls=E x0)
  (hI:∀d x jt,Inv d x jt->jt.get r i=some (.list (all.map f))) (h0:Inv [] x0 (η.add (.list [])))
  (step:∀d a t x jt,all=d++a::t->Inv d x jt->∀G:Sl->AH->Prop,(∀x η,Inv (d++[a]) x η->G (E x) η)->∃e',tg.bind (f a) (E x)=some e'/\W k elt e' jt (λv lC=>∃jD,xt g η.ju v lC=some jD/\G e' jD))
  (fin:∀x jt,Inv all x jt->Q (.ref g η.ju) jt) :
  ∃S,t6 (.ref r i) η=some S/\allB e fr=true/\pH (TL k .nil) (λe' jt Q'=>W k elt e' jt λv lC=>∃jD,xt η.reg η.ju v lC=some jD/\Q' jD) tg S (S.len η+1) 0 (clear e ls) (η.add (.list [])) (λjt=>Q (.ref η.reg η.ju) jt):=by
 refine ⟨_,tE hg,wK,?_⟩
 rw [tF hg,aC,he,mR]
 exact comp_map f all hl (λd e jt=>∃x,e=E x/\Inv d x jt) (λd e jt h=>h.elim λx h=>hI d x jt h.2) (λd a t e jt ha h G q=>h.elim λx h=>h.1▸(step d a t x jt ha h.2 G λx η I=>q _ _ ⟨x,rfl,I⟩).elim λe' z=>⟨e',z.1,λJ=>z.2,λz=>xf z.symm⟩) (λe jt h=>h.elim λx h=>fin x jt h.2) ⟨x0,he.symm▸rfl,h0⟩
end
section
theorem alL(O:lS C){a b:Str}(ha:a∈C.ns)(hb:b∈C.ns):decide (C.num a=C.num b)=decide (a=b):=by
 rw [decide_eq_decide]
 exact ⟨O.AQ _ ha _ hb,λe=>by rw [e]⟩
theorem Xy(O:lS C)(W:WF C η){a b:Str}(ha:a∈C.ns)(hb:b∈C.ns)(hK:20<=K):jw K (.st (.ref 272)) [C.m a,C.m b] η λv jt=>v=.bool (decide (a=b))/\jt=η:=by
 refine jw.le (k:=20) ?_ hK
 refine jw.at (as:=[C.m a,C.m b]) 0 akF (by wtm_at "o") rfl (by kernel_rfl) ?_;intro _ _
 unfold V6
 wtm_at "W"
 refine (Xl (dc rfl) (W.inst ha) AJ).same ?_
 wtm_at "W"
 refine (Xl (dc rfl) (W.inst hb) AJ).same ?_
 have n1:=W.number ha
 have n2:=W.number hb
 wtm_at "W"
 refine jO ⟨?_,rfl⟩
 rw [<-alL O ha hb]
theorem alM(O:lS C)(W:WF C η)(hn:n∈C.ns){l:List Str}(hl:∀x∈l,x∈C.ns)(hL:l.length<=65536){r:Nat}(hg:η.get r i=some (.list (l.map C.m)))(hK:30<=K):
  jw K (.st (.ref 299)) [.ref r i,C.m n] η λv jt=>v=.bool (decide (n∈l))/\jt=η:=by
 refine jw.le (k:=30) ?_ hK
 refine jw.at (as:=[.ref r i,C.m n]) 0 akG (by wtm_at "o") rfl (by kernel_rfl) ?_;intro _ _
 unfold V7
 wtm_at "s";wtm_at "s";wtm_at "s"
 refine Xu C.m l hL (λd e jt=>jt=η/\n∉d/\∃u,e=[some (.ref r i),some (C.m n),u]) ?_ ⟨rfl,by simp,_,rfl⟩ ?_ ?_
 ·rintro d e jt ⟨rfl,_⟩
  exact hg
 ·rintro d x t e jt hd ⟨rfl,h1,u,rfl⟩ G q
  refine ⟨_,rfl,?_⟩
  have hx:x∈C.ns:=hl x (by simp [hd])
  wtm_at "W"
  refine (Xy O W hx hn (by wtm_at "o")).same ?_
  refine alG (λh=>?_) λh=>?_
  ·wtm_at "W"
   refine jO ⟨?_,rfl⟩
   have:x=n:=by simpa using h
   subst this
   simp [hd]
  ·wtm_at "W"
   refine q _ _ ⟨rfl,?_,_,rfl⟩
   have:x≠n:=by simpa using h
   simp [h1,cX this]
 ·rintro e jt ⟨rfl,h1,u,rfl⟩
  wtm_at "W"
  exact jO ⟨by simp [h1],rfl⟩
end
end
theorem alN{α:Type}(l:List (Int×α))(x y:Int)(v:α):rQ (vZ l x v) y=if y=x then some v else rQ l y:=by
 induction l with
|nil=>
  unfold vZ rQ rQ
  by_cases h:y=x
  ·subst h;simp
  ·simp [h,cX h]
|cons p r ih=>
  obtain ⟨z,u⟩:=p
  unfold vZ
  by_cases hz:z=x
  ·subst hz
   simp only [decide_true,cond_true]
   unfold rQ
   by_cases h:y=z
   ·subst h;simp
   ·simp [h,cX h]
  ·simp only [hz,decide_false,cond_false]
   unfold rQ
   by_cases h:z=y
   ·subst h;simp [hz]
   ·simp only [h,decide_false,cond_false];exact ih
theorem alO{α:Type}(l:List (Int×α))(x:Int)(v:α):(vZ l x v).length<=l.length+1:=by
 induction l with
|nil=>simp [vZ]
|cons p r ih=>
  obtain ⟨z,u⟩:=p
  unfold vZ
  by_cases hz:z=x
  ·simp [hz]
  ·simp only [hz,decide_false,cond_false,aZ];exact om8 ih
def tG(C:Cfg)(o:AO)(l:List Str):Prop:=(l=[]/\o=.jE)\/∃d,o=.sL d/\d.length<=l.length/\∀x∈C.ns,(rQ d (C.num x)).isSome=decide (x∈l)
section
theorem tG.mem{r:Nat}{l:List Str}{x:Str}(h:tG C o l)(hg:η.get r i=some o)(hx:x∈C.ns):sN (.int (C.num x)) (.ref r i) η=some (decide (x∈l)):=by
 show (η.get r i).bind _=_
 refine jQ hg ?_
 rcases h with ⟨rfl,rfl⟩|⟨d,rfl,_,h⟩
 ·rfl
 ·exact congrArg some (h x hx)
theorem tG.put{r:Nat}{l:List Str}{x:Str}(O:lS C)(h:tG C o l)(hL:l.length<=60000)(hg:η.get r i=some o)(hx:x∈C.ns):∃o',nv (.ref r i) (.int (C.num x)) v η=some (η.set r i o')/\tG C o' (l++[x]):=by
 rcases h with ⟨rfl,rfl⟩|⟨d,rfl,hd,h⟩
 ·refine ⟨_,C0 hg rfl rfl,.inr ⟨_,rfl,by simp,λy hy=>?_⟩⟩
  unfold rQ
  by_cases e:y=x
  ·subst e;simp
  ·have:C.num x≠C.num y:=λq=>e (O.AQ _ hy _ hx q.symm)
   simp [this,e,rQ]
 ·refine ⟨_,C0 hg rfl (jQ rfl (lA (mh (om9 hL hd)) rfl)),.inr ⟨_,rfl,by have:=alO d (C.num x) v;simp;exact H8 hd this,λy hy=>?_⟩⟩
  rw [alN]
  by_cases e:y=x
  ·subst e;simp
  ·have:C.num y≠C.num x:=λq=>e (O.AQ _ hy _ hx q)
   rw [if_neg this,h y hy]
   simp [e]
theorem tG.yC{l:List Str}(h:tG C o l):Internal.yC (some o)=true:=by
 rcases h with ⟨_,rfl⟩|⟨d,rfl,_⟩<;>rfl
theorem tG.nil:tG C .jE []:=.inl ⟨rfl,rfl⟩
theorem AY{a b:PV}{t:Bool}{Q:Bool->Prop}(h:sN a b η=some t)(q:Q (!t)):∃c,nh .NotIn a b η=some c/\Q c:=⟨!t,by show (sN a b η).map _=_;rw [h];rfl,q⟩
theorem Xz(O:lS C)(W:WF C η){l:List Str}(hl:∀x∈l,x∈C.ns)(hL:l.length<=60000){r:Nat}(hg:η.get r i=some (.list (l.map C.m)))(hK:30<=K):
  jw K (.st (.ref 309)) [.ref r i] η λv jt=>v=.ref η.reg η.ju/\Ke η jt/\∃o,jt.get η.reg η.ju=some o/\tG C o l:=by
 refine jw.le (k:=30) ?_ hK
 refine jw.wH 3 (as:=[.ref r i]) 0 akI (by wtm_at "o") rfl (by kernel_rfl) ?_;intro _ _
 unfold V8
 wtm_at "W"
 refine alF ?_
 wtm_at "W"
 refine ⟨_,tE hg,rfl,?_⟩
 rw [tF hg,aC]
 refine uG C.m l (D0 hL) (λu:Option PV=>[some (.ref r i),none,u,none]) (λd J jt=>Ke η jt/\∃o,jt.get η.reg η.ju=some o/\tG C o d) _ rfl (λd x jt h=>h.1.get _ _ _ hg) ⟨(Ke.refl η).add _,_,AH.jT _ _,.nil⟩ ?_ λx jt h=>⟨rfl,h⟩
 intro d x t u jt hd I G q
 refine jP I λh I=>jZ I λo ho hn=>?_
 have hx:x∈C.ns:=hl x (by simp [hd])
 have W':=W.ke h
 refine ⟨_,rfl,?_⟩
 wtm_at "s"
 refine ⟨λJ=>?_,λh=>nomatch h⟩
 have:=W'.number hx
 wtm_at "W"
 refine ⟨by rw [ho];exact hn.yC,?_⟩
 have Gu:d.length<=l.length:=by rw [hd];simp
 refine jZ (hn.put (v:=.bool true) O (aak hL Gu) ho hx) λo' h1 h2=>?_
 exact ⟨_,h1,q _ _ ⟨h.set rfl (ak _) _,o',AH.lG ho,h2⟩⟩
end
section
section
variable{r:Nat}
theorem qU(h:η.get r i=some (.list l))(hn:(sq nm sP || sq nm sQ || sq nm sR || sq nm t8)=true):pN tab (.ref r i) nm η=some (.lst r i):=jQ h (lA hn rfl)
theorem zl(h:η.get r i=some (.list l))(hl:l.length<65536):ua tab (.lst r i) sU [v] η=some (.none,η.set r i (.list (l++[v]))):=jQ (oi h) (lA (by decide +kernel) (lA (mh (abD hl)) rfl))
theorem Gv(h:η.get r i=some (.list l))(h':η.get r' i'=some (.list l'))(mQ:¬ (r=r'/\i=i'))(hl:l.length+l'.length<=65536):ua tab (.lst r i) wj [.ref r' i'] η=some (.none,η.set r i (.list (l++l'))):=jQ (oi h) (cnf (by decide +kernel) (lA (by decide +kernel) (jQ (o:=oJ _ η) (oi h') (lA (tu (mh hl) (Gj mQ)) rfl))))
theorem alP(h:η.get r i=some (.list (l++[v])))(hl:l.length<65536):ua tab (.lst r i) Tf [] η=some (v,η.set r i (.list l)):=jQ (oi h) (cnf (by decide +kernel) (cnf (by decide +kernel) (lA (by decide +kernel) (jQ List.getLast?_concat (lA (mh (by rw [aE];exact hl)) (by rw [List.dropLast_concat]))))))
theorem XA(h:η.get r i=some (.list l))(hl:l.length<=65536):ng (.ref r i) η=some (!l.isEmpty):=jQ (oi h) (lA (mh hl) rfl)
end
section
abbrev fW(C:Cfg)(p:Str×Bool):PV:=.tup [C.m p.1,.bool p.2]
structure OL(C:Cfg)(η:AH)(a:PV)(found known:List Str)(waiting:List (Str×Bool))(e:Sl)(jt:AH):Prop where
 ke:Ke η jt
 fd:jt.get η.reg η.ju=some (.list (found.map C.m))
 kn:∃o,jt.get η.reg (η.ju+1)=some o/\tG C o known
 wt:jt.get η.reg (η.ju+2)=some (.list (waiting.map (fW C)))
 env:∃x y z u,e=[some a,some (.ref η.reg η.ju),some (.ref η.reg (η.ju+1)),some (.ref η.reg (η.ju+2)),x,y,z,u]
theorem XB{L:List Str}(hL:L.length<=1000){r:Nat}{x:Option PV}{a:Str}(he:∃p0 p1 p2 p3 p4 p5 p6 p7,e=[p0,p1,p2,p3,p4,p5,p6,p7])(hg:jB.get r i=some (.list (L.map C.m))){Q:PV->AH->Prop}
  (hit:∀{Q':PV->AH->Prop},Q' (.ref r i) jB->W k it e jB Q')
  (q:∀jA,Ke jB jA->jA.get jB.reg jB.ju=some (.list ((L.map λg=>(g,false)).map (fW C)))->Q (.ref jB.reg jB.ju) jA) :
  W k (.ve (.tup (.cons (.v 7) (.cons (.k (.bool false)) .nil))) (.one 7) it .nil [] [6,7]) e jB Q:=by
 refine ae3 (he) λp0 p1 p2 p3 p4 p5 p6 p7 lX=>?_
 obtain rfl:=lX
 refine su ?_
 refine hit ?_
 refine ⟨_,tE hg,rfl,?_⟩
 rw [tF hg,aC]
 refine uG C.m L (BP hL) (λu:Option PV=>[p0,p1,p2,p3,p4,p5,none,u]) (λd J jt=>Ke jB jt/\jt.get jB.reg jB.ju=some (.list ((d.map λg=>(g,false)).map (fW C)))) _ rfl (λd x jt h=>h.1.get _ _ _ hg) ⟨(Ke.refl _).add _,AH.jT _ _⟩ ?_ λx jt h=>q _ h.1 h.2
 intro d x t u jt hd I G q'
 refine jP I λh hh=>?_
 refine ⟨_,rfl,?_⟩
 wtm_at "s"
 refine ⟨λJ=>?_,λh=>nomatch h⟩
 wtm_at "W"
 have hlen:d.length<=L.length:=by rw [hd];simp
 refine ⟨_,?_,q' _ _ ⟨h.set rfl (ak _) _,AH.lG hh⟩⟩
 refine (sy hh).trans ?_
 rw [mh (by simp;exact ads hL hlen),cond_true,aV,aV]
 rfl
end
end
section
def zm:jF:=match zc with
|.cons _ (.cons (.ri _ b) _)=>b
|_=>.nil
section
variable{a:PV}{Q:Fl->Sl->AH->Prop}
def OG(C:Cfg)(η:AH)(a:PV)(k:Nat)(Q:Fl->Sl->AH->Prop)(w:Nat)(found known:List Str)(waiting:List (Str×Bool)):Prop:=∀e jt,OL C η a found known waiting e jt->found.length+w<=100->known.length+w<=100->waiting.length+5*w<=500->
 qL (λe η Q=>W k (.v 3) e η Q) (λe η Q=>WS k zm 0 e η Q) w e jt Q
variable{w:Nat}{found known:List Str}{pre:List (Str×Bool)}
theorem Mt{b:Bool}(h:∀e jt,OL C η a found known pre e jt->(∃z u,e=[some a,some (.ref η.reg η.ju),some (.ref η.reg (η.ju+1)),some (.ref η.reg (η.ju+2)),some (C.m g),some (.bool b),z,u])->found.length+w+1<=100->known.length+w+1<=100->pre.length+1+5*(w+1)<=500->
  WS k (match zm with|.cons _ r=>r|_=>.nil) 0 e jt λf e η=>match f with
  |.ret v=>Q (.ret v) e η
  |_=>qL (λe η Q=>W k (.v 3) e η Q) (λe η Q=>WS k zm 0 e η Q) w e η Q):OG C η a k Q (w+1) found known (pre++[(g,b)]):=by
 intro e jt I h1 h2 h3
 refine II (I.env) λx y z u lX=>?_
 obtain rfl:=lX
 have hw:=I.wt
 rw [aV] at hw
 simp only [aE,aZ,dz] at h3
 refine xW ?_
 wtm_at "s"
 refine ⟨true,?_,λJ=>?_,λh=>nomatch h⟩
 ·rw [XA hw (by simp;exact aey h3)]
  simp
 unfold zm zc
 dsimp only
 wtm_at "W"
 refine jY (qU hw (by decide +kernel)) ?_
 wtm_at "W"
 refine qQ (alP hw (by simp;exact aez h3)) ?_
 iterate 7 wtm_at "s"
 refine h _ _ ⟨I.ke.set rfl (El) _,?_,?_,AH.lG hw,⟨_,_,_,_,rfl⟩⟩ ⟨_,_,rfl⟩ (by assumption) (by assumption) (by assumption)
 ·rw [AH.ka (En)];exact I.fd
 ·refine jZ (I.kn) λo ho hn=>?_
  exact ⟨o,by rw [AH.ka (Eo)];exact ho,hn⟩
theorem alQ(h:OG C η a k Q w (found++[g]) known pre):OG C η a k Q (w+1) found known (pre++[(g,true)]):=by
 refine Mt ?_
 intro e jt I pJ h1 h2 h3
 refine wX (pJ) λz u wF=>?_
 obtain rfl:=wF
 unfold zm zc
 dsimp only
 wtm_at "W"
 refine jY (qU I.fd (by decide +kernel)) ?_
 wtm_at "W"
 refine qQ (zl I.fd (by simp;exact aeA h1)) ?_
 refine ⟨rfl,?_⟩
 wtm_at "W"
 refine h _ _ ⟨I.ke.set rfl (aeB) _,?_,?_,?_,⟨_,_,_,_,rfl⟩⟩ (by simp;exact Qo h1) (Ep h2) (Qp h3)
 ·rw [AH.lG I.fd,aV];rfl
 ·refine jZ (I.kn) λo ho hn=>?_
  exact ⟨o,by rw [AH.ka (aeC)];exact ho,hn⟩
 ·rw [AH.ka (aeD)];exact I.wt
variable(O:lS C)(F:WF C η)(hg:g∈C.ns)
include O F hg
theorem alR(hk:g∈known)(h:OG C η a k Q w found known pre):OG C η a k Q (w+1) found known (pre++[(g,false)]):=by
 refine Mt ?_
 intro e jt I Dd h1 h2 h3
 refine wX (Dd) λz u zo=>?_
 obtain rfl:=zo
 refine jZ (I.kn) λo ho hn=>?_
 have n1:=(F.ke I.ke).number hg
 unfold zm zc
 dsimp only
 wtm_at "W"
 refine AY (hn.mem ho hg) ?_
 rw [decide_eq_true hk]
 wtm_at "W"
 exact h _ _ ⟨I.ke,I.fd,I.kn,I.wt,⟨_,_,_,_,rfl⟩⟩ (Ep h1) (Ep h2) (Qp h3)
theorem alS(hk:g∉known)(h:OG C η a k Q w found (known++[g]) (pre++(C.mix g).map (·,false)++[(g,true)]++(C.front g).map (·,false))):OG C η a k Q (w+1) found known (pre++[(g,false)]):=by
 refine Mt ?_
 intro e jt I De h1 h2 h3
 refine wX (De) λz u Mu=>?_
 obtain rfl:=Mu
 refine jZ (I.kn) λo ho hn=>?_
 have F1:=F.ke I.ke
 have n1:=F1.number hg
 have m1:=F1.fix _ _ (O.AU g hg)
 have f1:=F1.fix _ _ (O.AV g hg)
 have lm:=O.AP g hg
 have lf:=O.AK g hg
 unfold zm zc
 dsimp only
 wtm_at "W"
 refine AY (hn.mem ho hg) ?_
 rw [decide_eq_false hk]
 wtm_at "W"
 refine jZ (hn.put (v:=.bool true) O (aeE h2) ho hg) λo' e1 pO=>?_
 refine jY e1 ?_
 have K1:Ke η (jt.set η.reg (η.ju+1) o'):=I.ke.set rfl (Ec) _
 have w1:(jt.set η.reg (η.ju+1) o').get η.reg (η.ju+2)=some (.list (pre.map (fW C))):=by rw [AH.ka (aeF)];exact I.wt
 have d1:(jt.set η.reg (η.ju+1) o').get η.reg η.ju=some (.list (found.map C.m)):=by rw [AH.ka (aeG)];exact I.fd
 have o1:(jt.set η.reg (η.ju+1) o').get η.reg (η.ju+1)=some o':=AH.lG ho
 have F2:=F.ke K1
 have m2:=F2.mixed hg
 have m3:=F2.fix _ _ (O.AU g hg)
 have r1:(jt.set η.reg (η.ju+1) o').reg=η.reg:=K1.reg
 revert w1 d1 o1 F2 m2 m3 r1 K1
 generalize jt.set η.reg (η.ju+1) o'=jB
 intro K1 w1 d1 o1 F2 m2 m3 r1
 wtm_at "W"
 refine jY (qU w1 (by decide +kernel)) ?_
 wtm_at "W"
 refine XB (L:=C.mix g) (Qq lm) (x:=none) (a:=g) ⟨_,_,_,_,_,_,_,_,rfl⟩ m3 ?_ ?_
 ·intro Q' h
  wtm_at "W"
  exact h
 intro jA K2 hl
 have w2:=K2.get _ _ _ w1
 have n2:=AH.qi w1 r1.symm
 wtm_at "W"
 refine qQ (Gv w2 hl (by rw [r1];exact Qs n2) (by simp;exact aeH h3 lm)) ?_
 refine ⟨rfl,?_⟩
 rw [<-aV]
 have w3:(jA.set η.reg (η.ju+2) (.list ((pre++(C.mix g).map (·,false)).map (fW C)))).get η.reg (η.ju+2)=some (.list ((pre++(C.mix g).map (·,false)).map (fW C))):=AH.lG w2
 have d3:(jA.set η.reg (η.ju+2) (.list ((pre++(C.mix g).map (·,false)).map (fW C)))).get η.reg η.ju=some (.list (found.map C.m)):=by rw [AH.ka (En)];exact K2.get _ _ _ d1
 have o3:(jA.set η.reg (η.ju+2) (.list ((pre++(C.mix g).map (·,false)).map (fW C)))).get η.reg (η.ju+1)=some o':=by rw [AH.ka (Eo)];exact K2.get _ _ _ o1
 have K3:Ke η (jA.set η.reg (η.ju+2) (.list ((pre++(C.mix g).map (·,false)).map (fW C)))):=(K1.trans K2).set rfl (El) _
 revert w3 d3 o3 K3
 generalize jA.set η.reg (η.ju+2) (.list ((pre++(C.mix g).map (·,false)).map (fW C)))=jD
 intro w3 d3 o3 K3
 wtm_at "W"
 refine jY (qU w3 (by decide +kernel)) ?_
 wtm_at "W"
 refine qQ (zl w3 (by simp;exact aeI h3 lm)) ?_
 refine ⟨rfl,?_⟩
 have e4:((pre++(C.mix g).map (·,false)).map (fW C))++[.tup [C.m g,.bool true]]=(pre++(C.mix g).map (·,false)++[(g,true)]).map (fW C):=by rw [aV (l₂:=[(g,true)])];rfl
 rw [e4]
 have w4:(jD.set η.reg (η.ju+2) (.list ((pre++(C.mix g).map (·,false)++[(g,true)]).map (fW C)))).get η.reg (η.ju+2)=some (.list ((pre++(C.mix g).map (·,false)++[(g,true)]).map (fW C))):=AH.lG w3
 have d4:(jD.set η.reg (η.ju+2) (.list ((pre++(C.mix g).map (·,false)++[(g,true)]).map (fW C)))).get η.reg η.ju=some (.list (found.map C.m)):=by rw [AH.ka (En)];exact d3
 have o4:(jD.set η.reg (η.ju+2) (.list ((pre++(C.mix g).map (·,false)++[(g,true)]).map (fW C)))).get η.reg (η.ju+1)=some o':=by rw [AH.ka (Eo)];exact o3
 have K4:Ke η (jD.set η.reg (η.ju+2) (.list ((pre++(C.mix g).map (·,false)++[(g,true)]).map (fW C)))):=K3.set rfl (El) _
 revert w4 d4 o4 K4
 generalize jD.set η.reg (η.ju+2) (.list ((pre++(C.mix g).map (·,false)++[(g,true)]).map (fW C)))=jV
 intro w4 d4 o4 K4
 have F4:=F.ke K4
 have a4:=F4.ahead hg
 have m4:=F4.fix _ _ (O.AV g hg)
 wtm_at "W"
 refine jY (qU w4 (by decide +kernel)) ?_
 wtm_at "W"
 refine XB (L:=C.front g) (Qq lf) (x:=none) (a:=g) ⟨_,_,_,_,_,_,_,_,rfl⟩ m4 ?_ ?_
 ·intro Q' h
  wtm_at "W"
  exact h
 intro kJ K5 hl5
 have w5:=K5.get _ _ _ w4
 have n5:=AH.qi w4 K4.reg.symm
 wtm_at "W"
 refine qQ (Gv w5 hl5 (by rw [K4.reg];exact Qs n5) (by simp;exact aeJ h3 lm lf)) ?_
 refine ⟨rfl,?_⟩
 rw [<-aV]
 wtm_at "W"
 refine h _ _ ⟨(K4.trans K5).set rfl (El) _,?_,⟨o',?_,pO⟩,AH.lG w5,⟨_,_,_,_,rfl⟩⟩ (Ep h1) (by simp;exact Qo h2) (by simp;exact aeK h3 lm lf)
 ·rw [AH.ka (En)];exact K5.get _ _ _ d4
 ·rw [AH.ka (Eo)];exact K5.get _ _ _ o4
end
end
section
section
variable{a:PV}{Q:Fl->Sl->AH->Prop}
noncomputable def cst:Nat->Nat
|0=>0
|f+1=>2+4*cst f
theorem alT{w:Nat}{found known:List Str}(h:∀e jt,OL C η a found known [] e jt->Q .next e jt):OG C η a k Q (w+1) found known []:=by
 intro e jt I h1 h2 h3
 refine II (I.env) λx y z u lX=>?_
 obtain rfl:=lX
 have hw:=I.wt
 refine xW ?_
 wtm_at "s"
 refine ⟨false,?_,λh=>(nomatch h),λJ=>h _ _ I⟩
 rw [XA hw (by simp)]
 simp
theorem Mv(O:lS C)(F:WF C η){f:Nat}
  (ih:∀(g:Str) (w:Nat) (found known:List Str) (pre:List (Str×Bool)),g∈C.ns->C.rank g<f->cst f<=w->(∀w',w<=w'+cst f->w'<=w->OG C η a k Q w' (C.visit f (found,known) g).1 (C.visit f (found,known) g).2 pre)->OG C η a k Q w found known (pre++[(g,false)])) :
  ∀(n:Nat) (gs:List Str),gs.length=n->∀(w:Nat) (s:List Str×List Str) (pre:List (Str×Bool)),(∀g∈gs,g∈C.ns/\C.rank g<f)->gs.length*cst f<=w->(∀w',w<=w'+gs.length*cst f->w'<=w->OG C η a k Q w' (gs.reverse.foldl (C.visit f) s).1 (gs.reverse.foldl (C.visit f) s).2 pre)->OG C η a k Q w s.1 s.2 (pre++gs.map (·,false))
|0,gs,hn,w,s,pre,hg,hw,h=>by
  obtain rfl:=jj.mp hn
  rw [List.map_nil,bU]
  exact h w (by simp) (ak _)
|n+1,gs,hn,w,s,pre,hg,hw,h=>by
  obtain ⟨AZ,g,rfl⟩:∃AZ g,gs=AZ++[g]:=⟨gs.dropLast,gs.getLast (by intro e;subst e;cases hn),(List.dropLast_concat_getLast _).symm⟩
  have hl:AZ.length=n:=by simpa using hn
  rw [aV,<-bQ]
  have h0:=hg g (by simp)
  have e:(AZ++[g]).length*cst f=AZ.length*cst f+cst f:=by simp [dD]
  refine ih g w s.1 s.2 _ h0.1 h0.2 (aaL hw e) λw' h1 h2=>?_
  refine Mv O F ih n AZ hl w' (C.visit f (s.1,s.2) g) pre (λx hx=>hg x (by simp [hx])) (aaM hw e h1) λMw h3 h4=>?_
  have:=h Mw (aaN e h1 h3) (aaO h2 h4)
  rw [List.reverse_append] at this
  exact this
theorem Mx(O:lS C)(F:WF C η):∀(f:Nat) (g:Str) (w:Nat) (found known:List Str) (pre:List (Str×Bool)),g∈C.ns->C.rank g<f->cst f<=w->(∀w',w<=w'+cst f->w'<=w->OG C η a k Q w' (C.visit f (found,known) g).1 (C.visit f (found,known) g).2 pre)->OG C η a k Q w found known (pre++[(g,false)])
|0,g,w,found,known,pre,hg,hr,hw,h=>absurd hr (uQ)
|f+1,g,w,found,known,pre,hg,hr,hw,h=>by
  have ec:cst (f+1)=2+4*cst f:=rfl
  obtain ⟨w,rfl⟩:∃v,w=v+1:=⟨w - 1,by exact aaP hw ec⟩
  by_cases hk:g∈known
  ·refine alR O F hg hk ?_
   have:=h w (aaQ ec) (Ec)
   unfold Cfg.visit at this
   rw [if_pos hk] at this
   exact this
  ·have e:C.visit (f+1) (found,known) g=(C.mix g).reverse.foldl (C.visit f) (((C.front g).reverse.foldl (C.visit f) (found,known++[g])).1++[g],((C.front g).reverse.foldl (C.visit f) (found,known++[g])).2):=by
    show Cfg.visit C (f+1) (found,known) g=_
    rw [Cfg.visit,if_neg hk]
   rw [e] at h
   clear e
   have lf:=O.AK g hg
   have lm:=O.AP g hg
   have m1:(C.front g).length*cst f<=2*cst f:=b9 _ lf
   have m2:(C.mix g).length*cst f<=2*cst f:=b9 _ lm
   refine alS O F hg hk ?_
   refine Mv O F (Mx O F f) _ (C.front g) rfl w (found,known++[g]) _ (λx hx=>⟨(O.front g hg x hx).1,by have:=(O.front g hg x hx).2;exact qY hr this⟩) (aaR ec hw m1) λw' h1 h2=>?_
   obtain ⟨w',rfl⟩:∃v,w'=v+1:=⟨w' - 1,by exact aaS ec hw m1 h1⟩
   refine alQ ?_
   refine Mv O F (Mx O F f) _ (C.mix g) rfl w' (((C.front g).reverse.foldl (C.visit f) (found,known++[g])).1++[g],((C.front g).reverse.foldl (C.visit f) (found,known++[g])).2) pre (λx hx=>⟨(O.mix g hg x hx).1,by have:=(O.mix g hg x hx).2;exact qY hr this⟩) (aaT ec hw m1 m2 h1) λMw h3 h4=>?_
   exact h Mw (aaU ec m1 m2 h1 h3) (aaV h2 h4)
end
section
theorem alU(O:lS C)(F:WF C η)(hn:n∈C.ns)(hK:70<=K):
  jw K (.st (.ref 304)) [C.m n] η λv jt=>v=.ref η.reg η.ju/\Ke η jt/\jt.get η.reg η.ju=some (.list ((C.nE n).map C.m)):=by
 refine jw.le (k:=70) ?_ hK
 refine jw.wH 7 (as:=[C.m n]) 45 akH (by wtm_at "o") rfl (by kernel_rfl) ?_;intro _ _
 unfold zc
 repeat' wtm_at "u"
 wtm_at "s"
 repeat' wtm_at "u"
 simp only [AH.nU,AH.oh]
 wtm_at "s"
 repeat' wtm_at "u"
 wtm_at "W"
 refine Mx (k:=70 - (13+45+1)) (a:=C.m n) O F 3 n 45 [] [] [] hn (by have:=O.rank n hn;exact D9 this) (dc rfl) (λw' h1 h2=>?_) _ _ ⟨((Ke.refl η).add _).add _ |>.add _,?_,⟨.jE,?_,.nil⟩,?_,⟨_,_,_,_,rfl⟩⟩ (by simp) (by simp) (by simp)
 ·have:cst 3=42:=rfl
  obtain ⟨w',rfl⟩:∃v,w'=v+1:=⟨w' - 1,by exact aaW h1 this⟩
  refine alT λe jt I=>?_
  refine II (I.env) λx y z u pJ=>?_
  obtain rfl:=pJ
  wtm_at "W"
  exact jO ⟨rfl,I.ke,I.fd⟩
 ·exact AH.lz (AH.lz (AH.jT _ _))
 ·exact AH.lz (by rw [<-AH.nU η (.list [])];exact AH.jT (η.add (.list [])) _)
 ·rw [show η.ju+2=((η.add (.list [])).add .jE).ju by rw [AH.nU,AH.nU]]
  exact AH.jT ((η.add (.list [])).add .jE) _
end
end
section
theorem eq_nil{r:Nat}(h:η.get r i=some (.list l))(h':η.get r' i'=some (.list []))(mQ:¬ (r=r'/\i=i')):nh .Eq (.ref r i) (.ref r' i') η=some (decide (l=[])):=by
 show (oJ (.ref r i) η).bind _=_
 refine jQ (oi h) (jQ (oi h') ?_)
 cases l with
|nil=>exact lA rfl (cnf ((cM _).mp (Gj mQ)) rfl)
|cons a l=>exact congrArg some (decide_eq_false (List.cons_ne_nil a l)).symm
theorem add_lists{r:Nat}(h:η.get r i=some (.list l))(h':η.get r' i'=some (.list l'))(hl:l.length+l'.length<=65536):qZ .Add (.ref r i) (.ref r' i') η=some (.ref η.reg η.ju,η.add (.list (l++l'))):=jQ (oi h) (jQ (o:=oJ (.ref r' i') η) (oi h') (lA (mh hl) rfl))
theorem A0(n:Str)(b:List Str)(fl:Bool)(x:Str)(t:List Str):Cfg.pn n b fl (x::t)=if (fl && !decide (x=n))=true\/x∉b then x::Cfg.pn n b (fl && !decide (x=n)) t else Cfg.pn n b (fl && !decide (x=n)) t:=rfl
theorem XC(n:Str)(b:List Str):∀(l:List Str) (fl:Bool),(Cfg.pn n b fl l).length<=l.length
|[],_=>ak _
|x::t,fl=>by
  rw [A0]
  have:=XC n b t (fl && !decide (x=n))
  split<;>simp<;>(first|assumption|exact zI this)
theorem Df(n:Str)(b:List Str):∀(l:List Str) (fl:Bool) (x:Str),x∈Cfg.pn n b fl l->x∈l
|[],_,x,h=>h
|y::t,fl,x,h=>by
  rw [A0] at h
  split at h
  ·rcases aB.mp h with rfl|h
   ·exact bL
   ·exact bu _ (Df n b t _ x h)
  ·exact bu _ (Df n b t _ x h)
structure ML(C:Cfg)(η:AH)(n:Str)(b:List Str)(N1 N2:Nat)(o:AO)(d acc:List Str)(fl:Bool)(jt:AH):Prop where
 ke:Ke η jt
 fd:jt.get 2 N2=some (.list (acc.map C.m))
 ow:jt.get 2 (N2+1)=some (.list ((C.nE n).map C.m))
 kn:jt.get 2 N1=some o
 go:∀t,C.nE n=d++t->Cfg.pn n b true (C.nE n)=acc++Cfg.pn n b fl t
 len:acc.length<=d.length
theorem alV(O:lS C)(F:WF C η)(hn:n∈C.ns){b:List Str}(hb:∀x∈b,x∈C.ns)(Dg:b.length<=1000)(Dh:(C.nE n).length<=1000)(XD:∀x∈C.nE n,x∈C.ns){r:Nat}(hg:η.get r i=some (.list (b.map C.m)))(hr:r=2)(hK:90<=K):
  jw K (.st (.ref 314)) [C.m n,.ref r i] η λv jt=>∃j,v=.ref 2 j/\Ke η jt/\jt.get 2 j=some (.list ((C.pA n b).map C.m)):=by
 refine jw.le (k:=90) ?_ hK
 refine jw.wH 7 (as:=[C.m n,.ref r i]) 0 akJ (by wtm_at "o") rfl (by kernel_rfl) ?_;intro _ _
 unfold Gd
 have mR:=F.reg
 have fa:=F.ahead hn
 have fl:=F.fix _ _ (O.AV n hn)
 wtm_at "W"
 refine jY (eq_nil (AH.lz fl) (AH.jT _ _) (by rw [mR];exact Qk)) ?_
 have e1:decide ((C.front n).map C.m=[])=decide (C.front n=[]):=by simp
 rw [e1]
 have K1:Ke η (η.add (.list [])):=(Ke.refl η).add _
 have go:C.pA n b=Cfg.pn n b true (C.nE n)++b.filter (λg=>decide (g∉Cfg.pn n b true (C.nE n)))->∀jB,Ke η jB->WS (90 - (11+0+1)) (match Gd with|.cons _ r=>r|_=>.nil) 0 (pI [C.m n,.ref r i] 7) jB (nK λv jt=>∃j,v=.ref 2 j/\Ke η jt/\jt.get 2 j=some (.list ((C.pA n b).map C.m))):=by
  intro hm jB K1
  rw [hm]
  clear hm
  unfold Gd
  dsimp only
  have F1:=F.ke K1
  wtm_at "W"
  refine (Xz O F1 hb (aek Dg) (K1.get _ _ _ hg) (by wtm_at "o")).mono λv jA ⟨h1,K2,o,ho,hD⟩=>?_
  subst h1
  have vq:=K1.trans K2
  have ik:=AH.qi ho K2.reg.symm
  have F3:=F.ke (vq.add (.list []))
  wtm_at "W"
  refine (alU O F3 hn (by wtm_at "o")).ny λjV K4 hw=>?_
  have r2:jA.reg=2:=vq.reg.trans mR
  have r1:jB.reg=2:=K1.reg.trans mR
  have fd:=K4.get _ _ _ (AH.jT jA (.list []))
  have kn:=K4.get _ _ _ (AH.lz (o:=.list []) ho)
  have K5:=(vq.add (.list [])).trans K4
  have n1:=K1.ju
  have n2:=K2.ju
  simp only [AH.nU,AH.oh] at hw ⊢
  rw [r2] at hw fd ⊢
  rw [r1] at kn ⊢
  have alW:=ael ik n1
  refine AX C.m (C.nE n) (BP Dh) (λx:Bool×Option PV×Option PV×Option PV×Option PV=>[some (C.m n),some (.ref r i),some (.ref 2 jB.ju),some (.ref 2 jA.ju),some (.bool x.1),x.2.1,x.2.2.1,x.2.2.2.1,x.2.2.2.2]) (λd x jt=>∃acc,ML C η n b jB.ju jA.ju o d acc x.1 jt) (true,_,_,_,_) rfl (λd x jt h=>h.elim λacc I=>I.ow) ⟨[],K5,fd,hw,kn,λt ht=>by rw [ht];rfl,ak _⟩ ?_ ?_
  ·intro d x t y jt hd I G q
   refine o6 I λacc I=>?_
   obtain ⟨fl,u,w,x',y⟩:=y
   refine ⟨_,rfl,?_⟩
   have hx:x∈C.ns:=XD x (by simp [hd])
   have F6:=F.ke I.ke
   have nV:d.length<(C.nE n).length:=by rw [hd];simp
   have tH:=I.go _ hd
   rw [A0] at tH
   have nx:=F6.number hx
   have flag:∀Q:PV->AH->Prop,Q (.bool (fl && !decide (x=n))) jt->W (90 - (11+0+1)) (.wA true (.v 4) (.no (.call (.st (.ref 272)) (.cons (.v 5) (.cons (.v 0) .nil))))) (put [some (C.m n),some (.ref r i),some (.ref 2 jB.ju),some (.ref 2 jA.ju),some (.bool fl),u,w,x',y] 5 (some (C.m x))) jt Q:=by
    intro Q q
    induction fl using Bool.casesOn with
   |false=>
     wtm_at "W"
     exact q
   |true=>
     wtm_at "W"
     refine (Xy O F6 hx hn (by wtm_at "o")).same ?_
     exact ⟨_,rfl,q⟩
   wtm_at "s";wtm_at "s"
   refine flag _ ?_
   clear flag
   have q1:∀{xP vt e lC},(e=[some (C.m n),some (.ref r i),some (.ref 2 jB.ju),some (.ref 2 jA.ju),some (.bool vt),some (C.m x),w,x',y])->Ke η lC->lC.get 2 jA.ju=some (.list (xP.map C.m))->lC.get 2 (jA.ju+1)=some (.list ((C.nE n).map C.m))->lC.get 2 jB.ju=some o->Cfg.pn n b true (C.nE n)=xP++Cfg.pn n b vt t->xP.length<=d.length+1->G e lC:=λ{xP vt e lC} he a1 a2 a3 a4 a5 a6=>he▸q (vt,_,_,_,_) lC ⟨xP,a1,a2,a3,a4,λt' My=>by
    have e:t=t':=gM ((bQ d [x] t).trans (hd.symm.trans My))
    exact e▸a5,by rw [aE];exact a6⟩
   generalize (fl && !decide (x=n))=vt at tH ⊢
   have lU:=hD.mem I.kn hx
   have K7:Ke η (jt.set 2 jA.ju (.list (acc.map C.m++[C.m x]))):=I.ke.set mR.symm alW _
   have g2:(jt.set 2 jA.ju (.list (acc.map C.m++[C.m x]))).get 2 jA.ju=some (.list ((acc++[x]).map C.m)):=by rw [AH.lG I.fd,aV];rfl
   have g3:(jt.set 2 jA.ju (.list (acc.map C.m++[C.m x]))).get 2 (jA.ju+1)=some (.list ((C.nE n).map C.m)):=by rw [AH.ka (aem)];exact I.ow
   have g4:(jt.set 2 jA.ju (.list (acc.map C.m++[C.m x]))).get 2 jB.ju=some o:=by rw [AH.ka (O3 ik)];exact I.kn
   have add:∀vt,Cfg.pn n b true (C.nE n)=acc++x::Cfg.pn n b vt t->(∀{e},(e=[some (C.m n),some (.ref r i),some (.ref 2 jB.ju),some (.ref 2 jA.ju),some (.bool vt),some (C.m x),w,x',y])->G e (jt.set 2 jA.ju (.list (acc.map C.m++[C.m x])))):=λvt h {e} he=>q1 he K7 g2 g3 g4 (h.trans (List.append_cons ..)) (by rw [aE];exact aL I.len)
   have len:=I.len
   wtm_at "W"
   induction vt using Bool.casesOn with
  |true=>
    wtm_at "W"
    rw [if_pos (.inl rfl)] at tH
    refine jY (qU I.fd (by decide +kernel)) ?_
    wtm_at "W"
    refine qQ (zl I.fd (by simp;exact Ql Dh len nV)) ⟨rfl,?_⟩
    wtm_at "W"
    exact add true tH rfl
  |false=>
    wtm_at "W"
    refine AY lU ?_
    by_cases Gw:x∈b
    ·rw [decide_eq_true Gw]
     wtm_at "W"
     rw [if_neg (by simp [Gw])] at tH
     exact q1 rfl I.ke I.fd I.ow I.kn tH (c9 len)
    ·rw [decide_eq_false Gw]
     wtm_at "W"
     rw [if_pos (.inr Gw)] at tH
     refine jY (qU I.fd (by decide +kernel)) ?_
     wtm_at "W"
     refine qQ (zl I.fd (by simp;exact Ql Dh len nV)) ⟨rfl,?_⟩
     wtm_at "W"
     exact add false tH rfl
  ·intro x jt I
   refine o6 I λacc I=>?_
   obtain ⟨fl,u,w,x,y⟩:=x
   have K6:=I.ke
   have h1:=I.fd
   have h5:=I.len
   have tH:=I.go [] (by simp)
   have e0:Cfg.pn n b fl []=[]:=rfl
   rw [e0,bU] at tH
   rw [tH]
   have F6:=F.ke K6
   have Ak:∀x∈acc,x∈C.ns:=λx hx=>XD x (Df n b _ true x (by rw [tH];exact hx))
   wtm_at "W"
   refine (Xz O F6 Ak (aen Dh h5) h1 (by wtm_at "o")).mono λv mK ⟨g1,K7,o',XE,hD'⟩=>?_
   subst g1
   have Gx:=K6.trans K7
   wtm_at "W"
   refine su ?_
   wtm_at "W"
   have Mz:=Gx.get _ _ _ hg
   refine ⟨_,tE Mz,rfl,?_⟩
   rw [tF Mz,aC]
   have alX:jt.reg=2:=K6.reg.trans mR
   have XF:mK.reg=2:=Gx.reg.trans mR
   have b7:=AH.qi XE K7.reg.symm
   have b6:=AH.qi h1 alX.symm
   refine uG C.m b (BP Dg) (λx:Option PV=>[some (C.m n),some (.ref r i),some (.ref 2 jB.ju),some (.ref 2 jA.ju),some (.bool fl),u,some (.ref jt.reg jt.ju),none,x]) (λd J lC=>Ke mK lC/\lC.get mK.reg mK.ju=some (.list ((d.filter λg=>decide (g∉acc)).map C.m))) _ rfl (λd x lC h=>h.1.get _ _ _ Mz) ⟨(Ke.refl _).add _,AH.jT _ _⟩ ?_ ?_
   ·intro d x t x' lC hd I G q
    refine jP I λK8 Di=>?_
    have hx:x∈C.ns:=hb x (by simp [hd])
    have F8:=F.ke (Gx.trans K8)
    have nx:=F8.number hx
    have nV:d.length<b.length:=by rw [hd];simp
    have qj:=bV (λg=>decide (g∉acc)) d
    refine ⟨_,rfl,?_⟩
    wtm_at "W"
    refine AY (hD'.mem (K8.get _ _ _ XE) hx) ?_
    by_cases Gy:x∈acc
    ·rw [decide_eq_true Gy]
     refine ⟨false,rfl,λh=>(nomatch h),λJ=>⟨λh=>(nomatch h),λJ=>q _ _ ⟨K8,?_⟩⟩⟩
     rw [Di,b8]
     simp [Gy]
    ·rw [decide_eq_false Gy]
     refine ⟨true,rfl,λJ=>?_,λh=>(nomatch h)⟩
     wtm_at "s"
     refine ⟨λJ=>?_,λh=>(nomatch h)⟩
     wtm_at "W"
     refine ⟨_,?_,q _ _ ⟨K8.set rfl (ak _) _,AH.lG Di⟩⟩
     refine (sy Di).trans ?_
     rw [mh (by simp only [aC];exact Qm Dg nV qj),cond_true,b8]
     simp [Gy]
   ·intro x' lC I
    refine jP I λK8 Di=>?_
    have h18:=K8.get _ _ _ (K7.get _ _ _ h1)
    have ra:=K8.reg
    have qj:=bV (λg=>decide (g∉acc)) b
    refine mC (add_lists h18 Di (by simp only [aC];exact aeo Dg Dh h5 qj)) ?_
    wtm_at "W"
    refine jO ⟨lC.ju,by rw [ra,XF],(Gx.trans K8).add _,?_⟩
    have:lC.reg=2:=ra.trans XF
    rw [<-this,AH.jT,aV]
 have F1:=F.ke K1
 have fm:=F1.mixed hn
 have fml:=F1.fix _ _ (O.AU n hn)
 by_cases hf:C.front n=[]
 ·rw [decide_eq_true hf]
  wtm_at "W"
  have r1:(η.add (.list [])).reg=2:=mR
  refine jY (eq_nil (AH.lz fml) (AH.jT _ _) (by rw [r1];exact Qk)) ?_
  have e1:decide ((C.mix n).map C.m=[])=decide (C.mix n=[]):=by simp
  rw [e1]
  by_cases hm:C.mix n=[]
  ·rw [decide_eq_true hm]
   wtm_at "W"
   refine mC (add_lists (AH.jT _ _) (((K1.add _).add _).get _ _ _ hg) (by simp;exact aep Dg)) ?_
   wtm_at "W"
   refine jO ⟨_,by rw [AH.oh,AH.oh,AH.oh,mR],((K1.add _).add _).add _,?_⟩
   have:=AH.jT (((η.add (.list [])).add (.list [])).add (.list [C.m n])) (.list ([C.m n]++b.map C.m))
   rw [AH.oh,AH.oh,AH.oh,mR] at this
   rw [this]
   unfold Cfg.pA
   rw [if_pos ⟨hf,hm⟩]
   rfl
  ·rw [decide_eq_false hm]
   iterate 2 wtm_at "s"
   exact go (by unfold Cfg.pA;rw [if_neg (λh=>hm h.2)]) _ (K1.add _)
 ·rw [decide_eq_false hf]
  iterate 3 wtm_at "s"
  exact go (by unfold Cfg.pA;rw [if_neg (λh=>hf h.1)]) _ K1
end
section
structure kg(η jt:AH):Prop where
 reg:jt.reg=η.reg
 ju:η.ju<=jt.ju
 get:∀r i o,r≠1->η.get r i=some o->jt.get r i=some o
 ent:∀i c fs,(c=254\/c=333)->η.get 1 i=some (.inst c fs)->jt.get 1 i=some (.inst c fs)
theorem Ke.kR(h:Ke η jt):kg η jt:=⟨h.reg,h.ju,λr i o J e=>h.get r i o e,λi c fs J e=>h.get _ _ _ e⟩
theorem kg.refl(η:AH):kg η η:=(Ke.refl η).kR
theorem kg.trans{a b c:AH}(h:kg a b)(k:kg b c):kg a c:=⟨k.reg.trans h.reg,ah h.ju k.ju,λr i o hr e=>k.get _ _ _ hr (h.get _ _ _ hr e),λi c fs hc e=>k.ent _ _ _ hc (h.ent _ _ _ hc e)⟩
theorem kg.inst(S:kg η jt):∀r i c fs,(c=254\/c=333)->η.get r i=some (.inst c fs)->jt.get r i=some (.inst c fs):=λr i c fs hc h=>by
 by_cases e:r=1
 ·subst e;exact S.ent _ _ _ hc h
 ·exact S.get _ _ _ e h
theorem kg.MA{a b:AH}(h:kg a b)(o:AO)(hn:∀c fs,(c=254\/c=333)->b.get 1 i≠some (.inst c fs)):kg a (b.set 1 i o):=by
 refine ⟨by rw [AH.zg,h.reg],by rw [AH.AG];exact h.ju,λr' i' o' qT e=>?_,λi' c fs hc e=>?_⟩
 ·rw [AH.ka]
  ·exact h.get _ _ _ qT e
  ·rintro ⟨rfl,rfl⟩
   exact qT rfl
 ·have e':=h.ent _ _ _ hc e
  rw [AH.ka]
  ·exact e'
  ·rintro ⟨_,rfl⟩
   exact hn _ _ hc e'
section
theorem WF.alY(O:lS C)(F:WF C η)(hn:n∈C.ns)(hg:η.get 2 i=some (.list ((C.line n).map C.m))):∃jt,sO tab (C.m n) nP (.tup [.int C.pS,.ref 2 i]) η=some jt/\WF C jt/\kg η jt:=by
 refine jZ (F.mod n hn) λfs a b=>?_
 have e:sO tab (C.m n) nP (.tup [.int C.pS,.ref 2 i]) η=some (η.set 1 (C.kQ n) (.inst 226 (jN fs nP (.tup [.int C.pS,.ref 2 i])))):=by
  exact jQ (o:=gR (C.m n)) rfl (jQ (Gi a) (jQ tC (lA (tu (by decide +kernel) (by rw [b.len];rfl)) rfl)))
 refine ⟨_,e,?_,(kg.refl η).MA _ (λc tL hc h=>by rw [a] at h;cases h;rcases hc with h|h<;>cases h)⟩
 have g2:∀i o,η.get 2 i=some o->(η.set 1 (C.kQ n) (.inst 226 (jN fs nP (.tup [.int C.pS,.ref 2 i])))).get 2 i=some o:=λi o h=>by rw [AH.ka (IA)];exact h
 have gi:∀r i c tL,(c=254\/c=333)->η.get r i=some (.inst c tL)->¬ (r=1/\i=C.kQ n):=by
  rintro r i c tL hc h ⟨rfl,rfl⟩
  rw [a] at h
  cases h
  rcases hc with h|h<;>cases h
 refine ⟨(AH.zg _ _ _ _).trans F.reg,λn' pO=>?_,λn' pO=>(F.mr n' pO).ke (λr i c tL hc h=>?_) λo h=>?_,λi' o h=>?_⟩
 ·by_cases q:n'=n
  ·subst q
   refine ⟨_,AH.lG a,?_⟩
   have g:∀x,x≠nP->jv (jN fs nP (.tup [.int C.pS,.ref 2 i])) x=jv fs x:=λx hx=>by rw [v5,if_neg hx]
   have kp:jv (jN fs nP (.tup [.int C.pS,.ref 2 i])) nP=some (.tup [.int C.pS,.ref 2 i]):=by rw [v5,if_pos rfl]
   refine jZ (b.kept) λkv hk J=>?_
   refine ⟨?_,?_,?_,?_,?_,?_,?_,?_,?_,?_,⟨_,kp,.inr ⟨i,rfl,?_⟩⟩,?_,?_⟩
   ·rw [g _ (by decide +kernel)];exact b.number
   ·rw [g _ (by decide +kernel)];exact b.xX
   ·rw [g _ (by decide +kernel)];exact b.parent
   ·rw [g _ (by decide +kernel)];exact b.attached
   ·rw [g _ (by decide +kernel)];exact b.own
   ·rw [g _ (by decide +kernel)];exact b.owner
   ·rw [g _ (by decide +kernel)];exact b.native
   ·rw [g _ (by decide +kernel)];exact b.mixed
   ·rw [g _ (by decide +kernel)];exact b.ahead
   ·rw [g _ (by decide +kernel)];exact b.methods
   ·rw [AH.ka (IA)];exact hg
   ·rw [g _ (by decide +kernel)];exact b.Dc
   ·rw [ER,hk];exact b.len
  ·refine jZ (F.mod n' pO) λtL a' b'=>?_
   refine ⟨tL,?_,b'.ke λi o h=>by rw [AH.ka (IA)];exact h⟩
   rw [AH.ka]
   ·exact a'
   ·rintro ⟨_,h⟩
    exact q (O.Gp _ pO _ hn h)
 ·rw [AH.ka (gi _ _ _ _ hc h)];exact h
 ·rw [AH.ka]
  ·exact h
  ·rintro ⟨_,q⟩
   rw [q,a] at h
   cases h
   have:=F.mr n' pO
   unfold uF at this
   rw [q,a] at this
   split at this
   ·cases this
   ·rcases this with ⟨l,u,v,x,_⟩|⟨_,x⟩<;>cases x
 ·rw [AH.ka]
  ·exact F.fix _ _ h
  ·rintro ⟨_,q⟩
   rw [q,O.Xn n hn] at h
   cases h
end
section
theorem WF.alZ(O:lS C)(F:WF C η)(hn:n∈C.ns){s o:Str}(hh:C.has n=some (s,g,o))(hd:η.get 1 (C.kX n)=some .jE)(hv:lI C η v s g o):∃jt,nv (.ref 1 (C.kX n)) (.str C.name) v η=some jt/\WF C jt/\kg η jt:=by
 have e:nv (.ref 1 (C.kX n)) (.str C.name) v η=some (η.set 1 (C.kX n) (.sd [(C.name,v)] 0)):=by
  exact AI hd
 refine ⟨_,e,?_,(kg.refl η).MA _ (λc tL hc h=>by rw [hd] at h;cases h)⟩
 have S:kg η (η.set 1 (C.kX n) (.sd [(C.name,v)] 0)):=(kg.refl η).MA _ (λc tL hc h=>by rw [hd] at h;cases h)
 refine ⟨S.reg.trans F.reg,λn' pO=>?_,λn' pO=>?_,λi' o' h=>?_⟩
 ·refine jZ (F.mod n' pO) λtL a' b'=>?_
  refine ⟨tL,?_,b'.ke λi o h=>S.get _ _ _ (dc rfl) h⟩
  rw [AH.ka]
  ·exact a'
  ·rintro ⟨_,h⟩
   rw [h,hd] at a'
   cases a'
 ·by_cases q:n'=n
  ·subst q
   unfold uF
   rw [hh]
   refine .inl ⟨_,_,v,AH.lG hd,?_,hv.ke S.inst⟩
   unfold jv
   rw [kj.mpr rfl]
   rfl
  ·refine (F.mr n' pO).ke S.inst λo h=>?_
   rw [AH.ka]
   ·exact h
   ·rintro ⟨_,h⟩
    exact q (O.AR _ pO _ hn h)
 ·rw [AH.ka]
  ·exact F.fix _ _ h
  ·rintro ⟨_,q⟩
   rw [q,O.Xo n hn] at h
   cases h
end
section
variable{w:Nat}{b:jF}
theorem al0{α:Type}(f:α->PV)(all:List α){r:Nat}(hl:all.length<=65536){Q:QS}(Inv:List α->Sl->AH->Prop)
  (hI:∀d e η,Inv d e η->η.get r i=some (.list (all.reverse.map f))) (h0:Inv [] e η)
  (step:∀d x t e η,all=d++x::t->Inv d e η->∀G:Sl->AH->Prop,(∀e η,Inv (d++[x]) e η->G e η)->∃e',tg.bind (f x) e=some e'/\WS k b w e' η (AW Q G))
  (fin:∀e η,Inv all e η->Q .next e η):∃S,rU true (.ref r i) η=some S/\o9 (λe η Q=>WS k b w e η Q) tg S (S.len η+1) 0 e η Q:=by
 have e0:(all.reverse.map f).length=all.length:=by rw [aC,fG]
 refine ⟨.rev r i all.length,?_,Gr (f:=f) (λd t e η ha I=>?_) step fin [] _ e η rfl (bG _) h0⟩
 ·show (η.lst r i).bind _=_
  exact jQ (oi (hI _ _ _ h0)) (lA (mh (e0▸hl)) (by rw [e0]))
 ·cases t with
 |nil=>
   refine cnf (fu.mpr λz=>?_) rfl
   rw [ha,bU] at z
   exact absurd (uU z) (aM _)
 |cons x t=>
   have qN:d.length<all.length:=by rw [ha,aE];exact bf (bO _)
   refine lA (dw.mpr qN) (jQ (oi (hI _ _ _ I)) (lA (mh (e0▸hl)) ?_))
   rw [cQ,List.getElem?_reverse (adB qN),show all.length - 1 - (all.length - 1 - d.length)=d.length by exact adC qN,ha,fB (ak _),gh]
   rfl
end
end
section
theorem rD{r:Nat}{c:Addr}{a:Str}(h:η.get r i=some (.inst c fs))(hf:(jL tab.fields c).map (o8 · a)=some true)(hp:jv fs a=some p)(hh:oK p=true):kE tab (.ref r i) a η=some p:=by
 refine jZ (eV.mp hf) λns h1 h2=>?_
 exact tD h h1 h2 hp hh
section
noncomputable def Cfg.qz(C:Cfg):Option Str->List Str
|none=>[]
|some p=>C.line p
noncomputable def cnt:Nat->Nat
|0=>0
|f+1=>1+4*cnt f
theorem XG(O:lS C):∀(f:Nat) (s:List Str×List Str) (g:Str),g∈C.ns->(∀x∈s.1,x∈C.ns)->(∀x∈(C.visit f s g).1,x∈C.ns)/\(C.visit f s g).1.length<=s.1.length+cnt f
|0,s,g,_,h=>⟨h,by show s.1.length<=_;simp [cnt]⟩
|f+1,s,g,hg,h=>by
  have fold:∀(gs:List Str) (s:List Str×List Str),(∀x∈gs,x∈C.ns)->(∀x∈s.1,x∈C.ns)->(∀x∈(gs.foldl (C.visit f) s).1,x∈C.ns)/\(gs.foldl (C.visit f) s).1.length<=s.1.length+gs.length*cnt f:=by
   intro gs
   induction gs with
  |nil=>intro s _ h;exact ⟨h,by simp⟩
  |cons g gs ih=>
    intro s hg h
    refine jP (XG O f s g (hg g (by simp)) h) λa b=>?_
    refine jP (ih (C.visit f s g) (λx hx=>hg x (by simp [hx])) a) λc d=>?_
    refine ⟨c,ah d ?_⟩
    simp only [aZ,dD]
    exact acg b
  unfold Cfg.visit
  split
  ·exact ⟨h,by exact ach⟩
  ·dsimp only
   refine jP (fold (C.front g).reverse (s.1,s.2++[g]) (λx hx=>(O.front g hg x (by simpa using hx)).1) h) λa b=>?_
   obtain ⟨c,d⟩:=fold (C.mix g).reverse (((C.front g).reverse.foldl (C.visit f) (s.1,s.2++[g])).1++[g],((C.front g).reverse.foldl (C.visit f) (s.1,s.2++[g])).2) (λx hx=>(O.mix g hg x (by simpa using hx)).1) (λx hx=>by
    rcases aH.mp hx with h|h
    ·exact a x h
    ·rw [aJ.mp h];exact hg)
   refine ⟨c,ah d ?_⟩
   simp only [aE,fG,aZ,dz] at b ⊢
   have lf:=O.AK g hg
   have lm:=O.AP g hg
   have m1:(C.front g).length*cnt f<=2*cnt f:=b9 _ lf
   have m2:(C.mix g).length*cnt f<=2*cnt f:=b9 _ lm
   have:cnt (f+1)=1+4*cnt f:=rfl
   exact aci b m1 m2 this
theorem XH(O:lS C)(hn:n∈C.ns):(∀x∈C.nE n,x∈C.ns)/\(C.nE n).length<=21:=by
 have:=XG O 3 ([],[]) n hn (λx hx=>nomatch hx)
 exact this
theorem XI(O:lS C)(hn:n∈C.ns){b:List Str}(hb:∀x∈b,x∈C.ns):(∀x∈C.pA n b,x∈C.ns)/\(C.pA n b).length<=b.length+21:=by
 unfold Cfg.pA
 split
 ·refine ⟨λx hx=>?_,by simp⟩
  rcases aB.mp hx with rfl|h
  ·exact hn
  ·exact hb x h
 ·dsimp only
  have h1:=Df n b (C.nE n) true
  have h2:=XC n b (C.nE n) true
  obtain ⟨h3,h4⟩:=XH O hn
  have h5:=bV (λg=>decide (g∉Cfg.pn n b true (C.nE n))) b
  refine ⟨λx hx=>?_,?_⟩
  ·rcases aH.mp hx with h|h
   ·exact h3 x (h1 x h)
   ·exact hb x (cC.mp h).1
  ·rw [aE]
   exact acj h2 h4 h5
theorem A1(O:lS C)(d:Nat):∀{n:Str},n∈C.ns->C.depth n<=d->(∀x∈C.line n,x∈C.ns)/\(C.line n).length<=21*(d+1):=by
  induction d using Nat.strongRecOn with|ind d ih=>?_
  intro n hn hd
  rw [O.line n hn]
  induction hp:C.jJ n using Option.casesOn with
 |none=>
   have:=XI O hn (b:=[]) (λx hx=>nomatch hx)
   refine ⟨this.1,ah this.2 ?_⟩
   simp only [dz];exact ack
 |some p=>
   obtain ⟨h1,h2⟩:=O.jJ n hn p hp
   obtain ⟨d,rfl⟩:∃k,d=k+1:=⟨d - 1,by exact acm hd h2⟩
   obtain ⟨h3,h4⟩:=ih d (bG d) h1 (acn h2 hd)
   have:=XI O hn h3
   refine ⟨this.1,ah this.2 ?_⟩
   exact aco h4
theorem al1(O:lS C){o:Option Str}(ho:∀n,o=some n->n∈C.ns):(∀x∈C.qz o,x∈C.ns)/\(C.qz o).length<=210:=by
 induction o using Option.casesOn with
|none=>exact ⟨λx hx=>(nomatch hx),by simp [Cfg.qz]⟩
|some n=>
  have:=A1 O 9 (ho n rfl) (by have:=O.deep n (ho n rfl);exact yv this)
  exact this
inductive Path(C:Cfg)(n:Str):List Str->Option Str->Prop
|nil:Path C n [] (some n)
|snoc {ws:List Str} {x:Str}:Path C n ws (some x)->x∈C.ns->Path C n (ws++[x]) (C.jJ x)
theorem Path.back{x:Str}{ws vs:List Str}{o:Option Str}(h:Path C n vs o)(e:vs=ws++[x]):Path C n ws (some x)/\x∈C.ns/\o=C.jJ x:=by
 cases h with
|nil=>simp at e
|snoc h hx=>
  refine jP (List.append_inj' e rfl) λlX e2=>?_
  obtain rfl:=lX
  cases e2
  exact ⟨h,hx,rfl⟩
theorem Path.start{o:Option Str}(h:Path C n [] o):o=some n:=by
 generalize hv:([]:List Str)=vs at h
 cases h with
|nil=>rfl
|snoc=>simp at hv
end
def XJ:jF:=match Az with
|.cons _ (.cons (.ri _ b) _)=>b
|_=>.nil
def XK:X:=match Az with
|.cons _ (.cons (.ri t _) _)=>t
|_=>.k .none
section
variable{Q:Fl->Sl->AH->Prop}
structure LX(C:Cfg)(η:AH)(n:Str)(ws:List Str)(o:Option Str)(e:Sl)(jt:AH):Prop where
 ke:Ke η jt
 wt:jt.get 2 η.ju=some (.list (ws.map C.m))
 path:Path C n ws o
 ns:∀x,o=some x->x∈C.ns
 env:∃y z,e=[some (.ref 1 C.jW),some (C.opt o),some (.ref 2 η.ju),y,z]
theorem XM(O:lS C)(F:WF C η)(h:∀ws o e jt,LX C η n ws o e jt->ws.length<=100->(∀x,o=some x->∃j,kE tab (C.m x) nP jt=some (.tup [.int C.pS,.ref 2 j])/\jt.get 2 j=some (.list ((C.line x).map C.m)))->Q .next e jt):
  ∀(w:Nat) (ws:List Str) (o:Option Str) (e:Sl) (jt:AH),LX C η n ws o e jt->(∀x,o=some x->C.depth x+1<w)->0<w->ws.length+w<=100->qL (λe η Q=>W k XK e η Q) (λe η Q=>WS k XJ 0 e η Q) w e jt Q
|0,_,_,_,_,_,_,hw,_=>absurd hw (dc rfl)
|w+1,ws,o,e,jt,I,hd,hw,hb=>by
  refine wX (I.env) λy z zo=>?_
  obtain rfl:=zo
  have F':=F.ke I.ke
  refine vV (O.jW) λwsf MB MC J=>?_
  have hv:kE tab (.ref 1 C.jW) sW jt=some (.int C.pS):=rD (F'.fix _ _ MB) (by kernel_rfl) MC rfl
  refine xW ?_
  unfold XK Az
  dsimp only
  induction o using Option.casesOn with
 |none=>
   wtm_at "W"
   exact h _ _ _ _ I (PR hb) (λx hx=>nomatch hx)
 |some x=>
   have hx:=I.ns x rfl
   refine jZ (F'.kept hx) λkv hk hk'=>?_
   have hp:=F'.parent hx
   have hh:=hd x rfl
   rw [show C.opt (some x)=C.m x from rfl]
   rcases hk' with rfl|⟨j,rfl,hj⟩
   ·wtm_at "W"
    unfold XJ Az
    dsimp only
    wtm_at "W"
    refine jY (qU I.wt (by decide +kernel)) ?_
    wtm_at "W"
    refine qQ (zl I.wt (by simp;exact acp hb)) ⟨rfl,?_⟩
    have K1:Ke η (jt.set 2 η.ju (.list (ws.map C.m++[C.m x]))):=I.ke.set F.reg.symm (ak _) _
    have MD:=(F.ke K1).parent hx
    wtm_at "W"
    refine XM O F h w (ws++[x]) (C.jJ x) _ _ ⟨K1,?_,.snoc I.path hx,λp hp=>(O.jJ x hx p hp).1,⟨_,_,rfl⟩⟩ (λp hp=>?_) (O0 hh) (by simp;exact acq hb)
    ·rw [AH.lG I.wt,aV];rfl
    ·have:=(O.jJ x hx p hp).2
     exact acr hh this
   ·have it:jR tab (.tup [.int C.pS,.ref 2 j]) (.int 0) jt=some (.int C.pS):=rfl
    wtm_at "W"
    refine ⟨false,by show some (!decide (C.pS=C.pS))=_;simp,λh=>(nomatch h),λJ=>h _ _ _ _ I (PR hb) λy hy=>?_⟩
    refine xs hy λDe=>?_
    try clear hy
    obtain rfl:=De
    exact ⟨j,hk,hj⟩
theorem XO(O:lS C)(F:WF C η)(hn:n∈C.ns)(hK:120<=K):
  jw K (.st (.ref 321)) [.ref 1 C.jW,C.m n] η λv jt=>∃j,v=.ref 2 j/\WF C jt/\kg η jt/\jt.get 2 j=some (.list ((C.line n).map C.m)):=by
 refine jw.le (k:=120) ?_ hK
 refine jw.wH 3 (as:=[.ref 1 C.jW,C.m n]) 15 akK (by wtm_at "o") rfl (by kernel_rfl) ?_;intro _ _
 unfold Az
 have hr:=F.reg
 repeat' wtm_at "u"
 rw [hr]
 wtm_at "W"
 have g0:=AH.jT η (.list [])
 rw [hr] at g0
 refine XM (n:=n) O F (λws o e jt I Mb hkp=>?_) 15 [] (some n) _ _ ⟨(Ke.refl η).add _,g0,.nil,λx hx=>by cases hx;exact hn,⟨_,_,rfl⟩⟩ (λx hx=>by cases hx;have:=O.deep n hn;exact acs this) (dc rfl) (by simp)
 refine wX (I.env) λy z qq9=>?_
 obtain rfl:=qq9
 have F1:=F.ke I.ke
 have r1:jt.reg=2:=F1.reg
 have start:∀(Q:PV->AH->Prop),(∀j lC,Ke jt lC->lC.get 2 j=some (.list ((C.qz o).map C.m))->Q (.ref 2 j) lC)->W (120 - (9+15+1)) (.sX (.cmp .Is (.v 1) (.k .none)) (.list .nil) (.item (.attr (.v 1) nP) (.k (.int (1))))) [some (.ref 1 C.jW),some (C.opt o),some (.ref 2 η.ju),y,z] jt Q:=by
  intro Q q
  induction o using Option.casesOn with
 |none=>
   wtm_at "W"
   rw [r1]
   have g:=AH.jT jt (.list [])
   rw [r1] at g
   exact q _ _ ((Ke.refl _).add _) g
 |some x=>
   refine jZ (hkp x rfl) λj h1 h2=>?_
   have s9:kE tab (C.opt (some x)) nP jt=_:=h1
   have it:jR tab (.tup [.int C.pS,.ref 2 j]) (.int 1) jt=some (.ref 2 j):=rfl
   wtm_at "W"
   exact q _ _ (Ke.refl _) h2
 wtm_at "s";wtm_at "s"
 refine start _ λj jA K2 hj=>?_
 have vq:=I.ke.trans K2
 have w2:=K2.get _ _ _ I.wt
 have F2:=F.ke vq
 clear start
 wtm_at "W"
 refine al0 C.m ws.reverse (by simp;exact Ig Mb) (Inv:=λd e jD=>∃t o' j y,ws.reverse=d++t/\Path C n t.reverse o'/\(∀x,o'=some x->x∈C.ns)/\WF C jD/\kg η jD/\jD.get 2 η.ju=some (.list (ws.map C.m))/\jD.get 2 j=some (.list ((C.qz o').map C.m))/\e=[some (.ref 1 C.jW),some (C.opt o),some (.ref 2 η.ju),some (.ref 2 j),y]) ?_ ⟨ws.reverse,o,j,z,rfl,by rw [jl];exact I.path,I.ns,F2,vq.kR,w2,hj,rfl⟩ ?_ ?_
 ·intro d e jD al2
  refine Qz (al2) λt o' j y J J J J J h J=>?_
  rw [jl]
  exact h
 ·intro d x t e jD hd al3 G q
  refine QB (al3) λt' o' j y ht hp uz F3 S3 w3 h3 al5=>?_
  obtain rfl:=al5
  refine ⟨_,rfl,?_⟩
  have et:t'=x::t:=by rw [hd] at ht;exact (gM ht).symm
  subst et
  refine pU (hp.back (ek)) λnM hx eo=>?_
  subst eo
  refine jP (al1 O uz) λl1 l2=>?_
  refine jP (XH O hx) λo1 o2=>?_
  wtm_at "W"
  refine (alV O F3 hx l1 (acu l2) (acv o2) o1 h3 rfl (by wtm_at "o")).Xf λj' jV K4 h4=>?_
  have F4:=F3.ke K4
  have el:C.pA x (C.qz (C.jJ x))=C.line x:=by
   rw [O.line x hx]
   cases C.jJ x<;>rfl
  rw [el] at h4
  refine vV (O.jW) λwsf MB MC J=>?_
  have hv:kE tab (.ref 1 C.jW) sW jV=some (.int C.pS):=rD (F4.fix _ _ MB) (by kernel_rfl) MC rfl
  wtm_at "W"
  refine vV (F4.alY O hx h4) λkJ e5 F5 S5=>?_
  refine jY e5 ?_
  wtm_at "W"
  exact q _ _ <| ae2 t (some x) j' _ (by rw [hd];simp) nM (λy hy=>by cases hy;exact hx) F5 ((S3.trans K4.kR).trans S5) (S5.get _ _ _ (dc rfl) (K4.get _ _ _ w3)) (S5.get _ _ _ (dc rfl) h4) rfl
 ·intro e jD Lk
  refine QB (Lk) λt o' j y ht hp uz F3 S3 w3 h3 al6=>?_
  obtain rfl:=al6
  have:t=[]:=by simpa using ht
  subst this
  have:=hp.start
  subst this
  wtm_at "W"
  exact jO ⟨j,rfl,F3,S3,h3⟩
end
end
structure New(η:AH)(R N L:Nat)(c:Addr)(fs:List (Str×PV))(jt:AH):Prop where
 ke:Ke η jt
 reg:η.reg=R
 ju:η.ju=N
 at_:jt.get R N=some (.inst c fs)
 len:fs.length<=L
theorem zp{c:Addr}:New η η.reg η.ju 0 c [] (η.add (.inst c [])):=⟨(Ke.refl _).add _,rfl,rfl,AH.jT _ _,by simp⟩
theorem tN{R L:Nat}{c:Addr}{a:Str}{Q:AH->Prop}(I:New η R N L c fs jt)(hf:(jL tab.fields c).map (o8 · a)=some true)(hl:L<=90)(q:∀lC,New η R N (L+1) c (jN fs a v) lC->Q lC):∃lC,sO tab (.ref R N) a v jt=some lC/\Q lC:=by
 refine jZ (eV.mp hf) λns h1 h2=>?_
 refine ⟨jt.set R N (.inst c (jN fs a v)),?_,q _ ⟨I.ke.set I.reg.symm (aq I.ju) _,I.reg,I.ju,AH.lG I.at_,?_⟩⟩
 ·exact jQ (o:=gR (.ref R N)) rfl (jQ (Gi I.at_) (jQ h1 (lA (tu h2 (mh (by have:=I.len;exact abt hl this))) rfl)))
 ·rw [ER]
  have:=I.len
  split<;>(first|exact zI this|exact abu this)
section
theorem XQ{c:Addr}(h1:jL tab.pV c=none)(h2:jL tab.oU c=some 243)(hf:([nX,l0,rZ,yQ,yN,oX,u6,u0,uZ].all λa=>(jL tab.fields c).map (o8 · a) == some true)=true){s:Str}{o b:PV}(hK:20<=K):jw K (.st (.ref c)) [.str nm,o,.str s,ps,b,.str g] η λv jt=>v=.ref η.reg η.ju/\Ke η jt/\jt.get η.reg η.ju=some (.inst c (zk nm o s ps b g)):=by
 refine jw.le (k:=20) ?_ hK
 refine jw.zj (as:=[.ref η.reg η.ju,.str nm,o,.str s,ps,b,.str g]) 0 h1 h2 akD (by wtm_at "o") (by kernel_rfl) ?_;intro _ _
 unfold V3
 simp only [List.all_cons,List.all_nil,dZ,aN,beq_iff_eq] at hf
 refine aeV (hf) λf1 f2 f3 f4 f5 f6 f7 f8 f9=>?_
 have I:=zp (η:=η) (c:=c)
 wtm_at "W"
 refine tN I f1 (dc rfl) λjB I=>?_
 wtm_at "W"
 refine tN I f2 (dc rfl) λjB I=>?_
 wtm_at "W"
 refine tN I f3 (dc rfl) λjB I=>?_
 wtm_at "W"
 refine tN I f4 (dc rfl) λjB I=>?_
 wtm_at "W"
 refine tN I f5 (dc rfl) λjB I=>?_
 wtm_at "W"
 refine tN I f6 (dc rfl) λjB I=>?_
 wtm_at "W"
 refine tN I f7 (dc rfl) λjB I=>?_
 wtm_at "W"
 refine tN I f8 (dc rfl) λjB I=>?_
 wtm_at "W"
 refine tN I f9 (dc rfl) λjB I=>?_
 wtm_at "W"
 refine wI ⟨rfl,rfl,I.ke,I.at_⟩
end
section
section
variable{r:Nat}
theorem xY(h:η.get r i=some .jE):pN tab (.ref r i) oq η=some (.dct r i):=jQ h rfl
theorem uH{l:List (Str×PV)}(h:η.get r i=some (.sd l u))(hn:(sq nm pF || sq nm t9)=true):pN tab (.ref r i) nm η=some (.dct r i):=jQ h (lA hn rfl)
theorem xZ(h:η.get r i=some .jE)(hv:getM [] vs=some v):ua tab (.dct r i) oq vs η=some (v,η):=jQ h (lA (by decide +kernel) (uE hv rfl))
theorem rE{l:List (Str×PV)}(h:η.get r i=some (.sd l u))(hv:getM l vs=some v):ua tab (.dct r i) oq vs η=some (v,η):=jQ h (lA (by decide +kernel) (uE hv rfl))
theorem Gz{c f:Addr}(h:η.get r i=some (.inst c fs))(hm:(jL tab.meths c).bind (jv · nm)=some f)(hn:jv fs nm=none):pN tab (.ref r i) nm η=some (.fn f (some (.ref r i))):=jz hm λms h1 h2=>jQ h (jQ h1 (jQ h2 (by rw [hn];rfl)))
end
section
variable(O:lS C)(F:WF C η)
include O F
theorem WF.wJ:kE tab (.ref 1 C.jW) wu η=some (.ref 1 C.tB):=by
 refine IE (O.jW) λws h1 h2 h3 h4 h5 J=>?_
 exact rD (F.fix _ _ h1) (by kernel_rfl) h3 rfl
theorem WF.prelude:kE tab (.ref 1 C.jW) wz η=some (.ref 1 C.sC):=by
 refine IE (O.jW) λws h1 h2 h3 h4 h5 J=>?_
 exact rD (F.fix _ _ h1) (by kernel_rfl) h4 rfl
theorem WF.made:kE tab (.ref 1 C.jW) ur η=some (.ref 1 C.made):=by
 refine IE (O.jW) λws h1 h2 h3 h4 h5 J=>?_
 exact rD (F.fix _ _ h1) (by kernel_rfl) h5 rfl
def pT(C:Cfg):Str:=if C.name=uq\/(C.native=kO/\C.name=uv) then nQ else kU
theorem al7(hn:n∈C.ns)(hN:C.nat n=.str C.native)(hK:20<=K):jw K (.st (.ref 342)) [C.m n,.str C.name] η λv jt=>v=.str (pT C)/\jt=η:=by
 unfold pT
 have h1:=F.native hn O
 rw [hN] at h1
 have e:=O.names
 have e2:=O.wJ
 generalize C.name=nm at e ⊢
 generalize C.native=nt at e2 h1 ⊢
 refine jw.le (k:=20) ?_ hK
 refine jw.at (as:=[C.m n,.str nm]) 0 akL (by wtm_at "o") rfl (by kernel_rfl) ?_;intro _ _
 unfold V9
 rcases e with rfl|rfl|rfl
 all_goals first
 |((wtm_at "W");exact jO ⟨congrArg PV.str (by rcases e2 with rfl|rfl|rfl|rfl<;>decide +kernel),rfl⟩)
 |(rcases e2 with rfl|rfl|rfl|rfl<;>((wtm_at "W");exact jO ⟨congrArg PV.str (by decide +kernel),rfl⟩))
end
end
section
theorem MF{l:List (Str×PV)}{x:Str}(h:jv l x=some v):getM l [.str x]=some v:=congrArg (λo:Option PV=>some (o.getD .none)) h
theorem Dj{l:List (Str×PV)}{x:Str}{d:PV}(h:jv l x=some v):getM l [.str x,d]=some v:=congrArg (λo:Option PV=>some (o.getD d)) h
theorem Dk{l:List (Str×PV)}{x:Str}{d:PV}(h:jv l x=none):getM l [.str x,d]=some d:=congrArg (λo:Option PV=>some (o.getD d)) h
theorem Dl{x:Str}:jv [(x,v)] x=some v:=by unfold jv;rw [kj.mpr rfl];rfl
theorem XR{x y:Str}(h:sq x y=false):jv [(x,v)] y=none:=by unfold jv;rw [h];rfl
section
theorem al8:jL tab.oU 254=some 243:=by kernel_rfl
theorem al9:jL tab.oU 333=some 243:=by kernel_rfl
theorem XS(hK:20<=K){s:Str}{o b:PV}:jw K (.st (.ref 254)) [.str nm,o,.str s,ps,b,.str g] η λv jt=>v=.ref η.reg η.ju/\Ke η jt/\jt.get η.reg η.ju=some (.inst 254 (zk nm o s ps b g)):=XQ (by kernel_rfl) al8 (by kernel_rfl) hK
theorem ama(hK:20<=K){s:Str}{o b:PV}:jw K (.st (.ref 333)) [.str nm,o,.str s,ps,b,.str g] η λv jt=>v=.ref η.reg η.ju/\Ke η jt/\jt.get η.reg η.ju=some (.inst 333 (zk nm o s ps b g)):=XQ (by kernel_rfl) al9 (by kernel_rfl) hK
theorem lI.ya{s o:Str}(h:lI C η v s g o):mJ v=false:=by
 obtain ⟨r,i,c,b,rfl,_⟩:=h;rfl
theorem yb{s o:Str}(h:lI C η v s g o){a:Str}(ha:∀b,jv (zk C.name (C.m o) s .none b g) a=some p)(hp:oK p=true)(h1:(jL tab.fields 254).map (o8 · a)=some true)(h2:(jL tab.fields 333).map (o8 · a)=some true):kE tab v a η=some p:=by
 refine Es (h) λr i c b lX hg hc hb=>?_
 obtain rfl:=lX
 rcases hc with rfl|rfl
 ·exact rD hg h1 (ha b) hp
 ·exact rD hg h2 (ha b) hp
theorem lI.name{s o:Str}(h:lI C η v s g o):kE tab v nX η=some (.str C.name):=yb h (λb=>by kernel_rfl) rfl (by kernel_rfl) (by kernel_rfl)
theorem lI.owner{s o:Str}(h:lI C η v s g o):kE tab v l0 η=some (C.m o):=yb h (λb=>by kernel_rfl) rfl (by kernel_rfl) (by kernel_rfl)
theorem lI.sort{s o:Str}(h:lI C η v s g o):kE tab v rZ η=some (.str s):=yb h (λb=>by kernel_rfl) rfl (by kernel_rfl) (by kernel_rfl)
theorem lI.params{s o:Str}(h:lI C η v s g o):kE tab v yQ η=some .none:=yb h (λb=>by kernel_rfl) rfl (by kernel_rfl) (by kernel_rfl)
theorem lI.sight{s o:Str}(h:lI C η v s g o):kE tab v oX η=some (.str g):=yb h (λb=>by kernel_rfl) rfl (by kernel_rfl) (by kernel_rfl)
theorem lI.amb{s o:Str}(h:lI C η v s g o):kE tab v u6 η=some (.tup []):=yb h (λb=>by kernel_rfl) rfl (by kernel_rfl) (by kernel_rfl)
theorem lI.amc{s o:Str}(h:lI C η v s g o):kE tab v u0 η=some .none:=yb h (λb=>by kernel_rfl) rfl (by kernel_rfl) (by kernel_rfl)
theorem lI.code{s o:Str}(h:lI C η v s g o):kE tab v uZ η=some .none:=yb h (λb=>by kernel_rfl) rfl (by kernel_rfl) (by kernel_rfl)
theorem lI.body{s o:Str}(h:lI C η v s g o):∃b,kE tab v yN η=some b/\oK b=true:=by
 refine Es (h) λr i c b pJ hg hc hb=>?_
 obtain rfl:=pJ
 refine ⟨b,?_,hb⟩
 rcases hc with rfl|rfl
 ·exact rD hg (by kernel_rfl) (by kernel_rfl) hb
 ·exact rD hg (by kernel_rfl) (by kernel_rfl) hb
variable(O:lS C)(F:WF C η)
include O F
theorem amd(hn:n∈C.ns)(hE:C.native≠kT)(hN:C.nat n=.str C.native)(hK:60<=K):jw K (.st (.ref 349)) [.ref 1 C.jW,C.m n,.str C.name] η λv jt=>Ke η jt/\lI C jt v lu (pT C) n:=by
 refine jw.le (k:=60) ?_ hK
 refine jw.at (as:=[.ref 1 C.jW,C.m n,.str C.name]) 0 Wa (by wtm_at "o") rfl (by kernel_rfl) ?_;intro _ _
 unfold Mg
 have a1:=F.wJ O
 have a2:=F.native hn O
 rw [hN] at a2
 obtain ⟨_,u,u',e1,e2⟩:=O.tB.resolve_left (λh=>hE h.1)
 have g1:=F.fix _ _ e1
 have g2:=AH.lz (o:=.jE) (F.fix _ _ e2)
 wtm_at "W"
 refine jY (uH g1 (by decide +kernel)) ?_
 wtm_at "W"
 refine oE (v:=.ref 1 C.C8) (rE (AH.lz g1) (Dj Dl)) ?_
 refine jY (uH g2 (by decide +kernel)) ?_
 wtm_at "W"
 refine oE (v:=.tup [.none,.int 0,.int 0]) (rE g2 (MF Dl)) ?_
 wtm_at "W"
 refine jw.nB (by wtm_at "o") (by intro _ h;cases h) (show _=some (.bool false,_) from rfl) ?_
 wtm_at "W"
 have F1:WF C (η.add .jE):=F.ke ((Ke.refl η).add _)
 refine (al7 O F1 hn hN (by wtm_at "o")).same ?_
 wtm_at "W"
 refine (ama (by wtm_at "o")).ny λjB K1 h2=>?_
 refine jO ⟨((Ke.refl η).add _).trans K1,_,_,333,_,rfl,h2,.inr rfl,rfl⟩
theorem ame(hn:n∈C.ns){x:Str}(hN:C.nat n=.str x)(hx:C.native=kT\/sq C.native x=false)(hK:60<=K):jw K (.st (.ref 349)) [.ref 1 C.jW,C.m n,.str C.name] η λv jt=>Ke η jt/\v=.none:=by
 refine jw.le (k:=60) ?_ hK
 refine jw.at (as:=[.ref 1 C.jW,C.m n,.str C.name]) 0 Wa (by wtm_at "o") rfl (by kernel_rfl) ?_;intro _ _
 unfold Mg
 have a1:=F.wJ O
 have a2:=F.native hn O
 rw [hN] at a2
 have F1:WF C (η.add .jE):=F.ke ((Ke.refl η).add _)
 have a3:=F1.prelude O
 have a4:=F1.native hn O
 rw [hN] at a4
 have g3:=F1.fix _ _ O.sC
 have key:∀(Q:PV->AH->Prop),(Q (.ref η.reg η.ju) (η.add .jE))->∃m,pN tab (.ref 1 C.tB) oq η=some m/\WL (60 - (11+0+1)) (.cons (.attr (.v 1) lu) (.cons .jE .nil)) (pI [.ref 1 C.jW,C.m n,.str C.name] 8) η λvs η=>WM (60 - (11+0+1)) m oq vs η Q:=by
  intro Q q
  rcases O.tB with ⟨_,e1⟩|⟨hE,u,u',e1,e2⟩
  ·have g1:=F.fix _ _ e1
   refine jY (xY g1) ?_
   wtm_at "W"
   exact oE (xZ (AH.lz g1) rfl) q
  ·have g1:=F.fix _ _ e1
   refine jY (uH g1 (by decide +kernel)) ?_
   wtm_at "W"
   exact oE (rE (AH.lz g1) (Dk (XR (hx.resolve_left hE)))) q
 wtm_at "W"
 refine key _ ?_
 refine jY (xY (AH.jT _ _)) ?_
 wtm_at "W"
 refine oE (xZ (AH.jT _ _) rfl) ?_
 wtm_at "W"
 refine jY (xY g3) ?_
 wtm_at "W"
 refine oE (xZ (AH.lz g3) rfl) ?_
 refine jY (xY (AH.jT _ _)) ?_
 wtm_at "W"
 refine oE (xZ (AH.jT _ _) rfl) ?_
 wtm_at "W"
 exact jO ⟨((Ke.refl η).add _).add _,rfl⟩
end
end
section
def amf(C:Cfg)(η:AH)(v:PV):Option (Str×Str×Str)->Prop
|none=>v=.none
|some (s,g,o)=>lI C η v s g o
def oj(C:Cfg):Option Str->List Str->Option (Str×Str)
|_,[]=>none
|sg,n::r=>match C.has n with
 |none=>oj C sg r
 |some (s,g,o)=>if s=lN then oj C (some (sg.getD g)) r else if s=nH then none else some (sg.getD g,o)
def XT(C:Cfg)(η:AH)(v:PV):Option (Str×Str)->Prop
|none=>v=.none
|some (g,o)=>∃s,lI C η v s g o
section
variable(O:lS C)(F:WF C η)
include O F
theorem amg{s o:Str}(hn:n∈C.ns)(hh:C.has n=some (s,g,o))(he:look e 3=some v)(h:lI C jB v s g o){Q:PV->AH->Prop}(q:Q v jB):WS k (.cons (.ret (.sX (.wA false (.cmp .Is (.v 3) (.k .none)) (.cmp .Eq (.attr (.v 3) rZ) (.k (.str Fd)))) (.k .none) (.v 3))) .nil) 0 e jB (nK Q):=by
 have h1:=h.ya
 have h2:=h.sort
 have h3:sq s Fd=false:=by
  rcases (O.o8 n hn s g o hh).2 with e|e|e|⟨e,_⟩<;>rw [e]<;>decide +kernel
 wtm_at "s";wtm_at "s";wtm_at "s";wtm_at "s";wtm_at "s"
 refine qh he ?_
 wtm_at "W"
 refine qh he ?_
 wtm_at "W"
 refine Gh (by show some (sq s Fd)=_;rw [h3]) ?_
 refine qh he ?_
 exact jO q
theorem amh(hn:n∈C.ns)(hK:80<=K):jw K (.st (.ref 356)) [.ref 1 C.jW,C.m n,.str C.name] η λv jt=>WF C jt/\kg η jt/\amf C jt v (C.has n):=by
 refine jw.le (k:=80) ?_ hK
 refine jw.at (as:=[.ref 1 C.jW,C.m n,.str C.name]) 0 akM (by wtm_at "o") rfl (by kernel_rfl) ?_;intro _ _
 unfold Wb
 have a1:=F.methods hn
 have a2:=F.native hn O
 have hm:=F.mr n hn
 induction hh:C.has n using Option.casesOn with
|none=>
  unfold uF at hm
  rw [hh] at hm
  wtm_at "W"
  refine jY (xY hm) ?_
  wtm_at "W"
  refine oE (v:=.none) (xZ hm rfl) ?_
  rcases O.Mq n hn with e|⟨x,e,e'⟩
  ·rw [e] at a2
   wtm_at "W"
   exact jO ⟨F,kg.refl _,hh▸rfl⟩
  ·have hx:C.native=kT\/sq C.native x=false:=by
    rcases O.Xp n hn hh with h|h
    ·exact .inl h
    ·rcases e' with rfl|e'
     ·exact absurd e h
     ·exact .inr e'
   rw [e] at a2
   wtm_at "W"
   refine (ame O F hn e hx (by wtm_at "o")).mono λv jB lX=>?_
   refine jP (lX) λK1 h1=>?_
   subst h1
   wtm_at "W"
   exact jO ⟨F.ke K1,K1.kR,hh▸rfl⟩
|some p=>
  obtain ⟨s,g,o⟩:=p
  unfold uF at hm
  rw [hh] at hm
  rcases hm with ⟨l,u,v,h1,h2,h3⟩|⟨h1,h2⟩
  ·have h4:=h3.ya
   have h5:=h3.sort
   wtm_at "W"
   refine jY (uH h1 (by decide +kernel)) ?_
   wtm_at "W"
   refine oE (rE h1 (MF h2)) ?_
   iterate 11 wtm_at "s"
   exact amg O F hn hh rfl h3 ⟨F,kg.refl _,hh▸h3⟩
  ·refine jP (O.o8 n hn s g o hh) λho hS=>?_
   obtain ⟨_,e2,e3,e4,e5⟩:s=lu/\o=n/\C.native≠kT/\C.nat n=.str C.native/\g=pT C:=by
    subst h1
    rcases hS with e|e|e|e
    ·exact absurd e (by decide +kernel)
    ·exact absurd e (by decide +kernel)
    ·exact absurd e (by decide +kernel)
    ·exact e
   subst h1
   rw [e4] at a2
   wtm_at "W"
   refine jY (xY h2) ?_
   wtm_at "W"
   refine oE (v:=.none) (xZ h2 rfl) ?_
   wtm_at "W"
   refine (amd O F hn e3 e4 (by wtm_at "o")).AF λv jB K1 h1=>?_
   have F1:=F.ke K1
   have a3:=F1.methods hn
   have h4:=h1.ya
   rw [<-e5,<-e2] at h1
   have pQ:=K1.get _ _ _ h2
   refine vV (F1.alZ O hn hh pQ h1) λjA e6 F2 S2=>?_
   have s9:=h1.ke S2.inst
   have h5:=s9.sort
   wtm_at "W"
   exact jO ⟨F2,K1.kR.trans S2,hh▸s9⟩
end
end
section
theorem MG(C:Cfg)(sg:Option Str)(n:Str)(r:List Str):oj C sg (n::r)=match C.has n with
 |none=>oj C sg r
 |some (s,g,o)=>if s=lN then oj C (some (sg.getD g)) r else if s=nH then none else some (sg.getD g,o):=rfl
noncomputable def A2:Option Str->PV
|none=>.none
|some g=>.str g
section
theorem ami{s o g':Str}(h:lI C η v s g o)(hK:40<=K):jw K (.st (.ref 251)) [v,.str C.name,C.m o,.str g'] η λv' jt=>Ke η jt/\lI C jt v' s g' o:=by
 refine jw.le (k:=40) ?_ hK
 refine jw.at (as:=[v,.str C.name,C.m o,.str g']) 0 akE (by wtm_at "o") rfl (by kernel_rfl) ?_;intro _ _
 unfold V4
 have a1:=h.sort
 have a2:=h.params
 refine jZ (h.body) λb a3 hb=>?_
 wtm_at "W"
 refine (XS (by wtm_at "o")).ny λjB K1 h2=>?_
 have I:New η η.reg η.ju 9 254 (zk C.name (C.m o) s .none b g') jB:=⟨K1,rfl,rfl,h2,by show 9<=9;decide⟩
 have b1:=(h.ke (λr i c fs J e=>K1.get _ _ _ e)).amb
 wtm_at "W"
 refine tN I (by kernel_rfl) (dc rfl) λjA I=>?_
 have b1:=(h.ke (λr i c fs J e=>I.ke.get _ _ _ e)).amc
 wtm_at "W"
 refine tN I (by kernel_rfl) (dc rfl) λjA I=>?_
 have b1:=(h.ke (λr i c fs J e=>I.ke.get _ _ _ e)).code
 wtm_at "W"
 refine tN I (by kernel_rfl) (dc rfl) λjA I=>?_
 wtm_at "W"
 exact jO ⟨I.ke,_,_,254,b,rfl,I.at_,.inl rfl,hb⟩
theorem lI.moved{s o:Str}(h:lI C η v s g o):pN tab v Ff η=some (.fn 251 (some v)):=by
 refine Es (h) λr i c b lX hg hc hb=>?_
 obtain rfl:=lX
 rcases hc with rfl|rfl
 ·exact Gz hg (by kernel_rfl) (by kernel_rfl)
 ·exact Gz hg (by kernel_rfl) (by kernel_rfl)
theorem amj{s o g':Str}(h:lI C η v s g o)(hK:50<=K):jw K (.st (.ref 405)) [v,.str g'] η λv' jt=>Ke η jt/\lI C jt v' s g' o:=by
 refine jw.le (k:=50) ?_ hK
 refine jw.at (as:=[v,.str g']) 0 akT (by wtm_at "o") rfl (by kernel_rfl) ?_;intro _ _
 unfold Wk
 have a1:=h.name
 have a2:=h.owner
 have a3:=h.moved
 wtm_at "W"
 refine (ami h (by wtm_at "o")).mono λv' jB h1=>?_
 exact jO h1
variable(O:lS C)(F:WF C η)
include O F
theorem amk{l:List Str}(hl:∀x∈l,x∈C.ns)(hL:l.length<=65536)(hg:η.get 2 j=some (.list (l.map C.m)))(hK:100<=K):
  jw K (.st (.ref 363)) [.ref 1 C.jW,.ref 2 j,.str C.name] η λv jt=>WF C jt/\kg η jt/\XT C jt v (oj C none l):=by
 refine jw.le (k:=100) ?_ hK
 refine jw.at (as:=[.ref 1 C.jW,.ref 2 j,.str C.name]) 0 akN (by wtm_at "o") rfl (by kernel_rfl) ?_;intro _ _
 unfold Wc
 wtm_at "W"
 refine AX C.m l hL (λy:Option Str×Option PV×Option PV=>[some (.ref 1 C.jW),some (.ref 2 j),some (.str C.name),some (A2 y.1),y.2.1,y.2.2]) (λd y jt=>WF C jt/\kg η jt/\∀t,l=d++t->oj C none l=oj C y.1 t) (none,_,_) rfl (λd y jt I=>I.2.1.get _ _ _ (dc rfl) hg) ⟨F,kg.refl _,λt ht=>by rw [ht];rfl⟩ ?_ ?_
 ·intro d x t y jt hd I G q
  obtain ⟨sg,u,w⟩:=y
  refine pU I λF1 S1 MH=>?_
  have nx:∀{GA:Option Str} {u w:Option PV} {jA:AH},WF C jA->kg η jA->oj C none l=oj C GA t->G [some (.ref 1 C.jW),some (.ref 2 j),some (.str C.name),some (A2 GA),u,w] jA:=λa b c=>q (_,_,_) _ ⟨a,b,λt' My=>(gM ((bQ d [x] t).trans (hd.symm.trans My)):t=t')▸c⟩
  clear q
  refine ⟨_,rfl,?_⟩
  have hx:x∈C.ns:=hl x (by simp [hd])
  have qA:=MH _ hd
  wtm_at "W"
  refine (amh O F1 hx (by wtm_at "o")).pM λv jA F2 S2 hE=>?_
  have qV:=S1.trans S2
  rw [MG] at qA
  induction hh:C.has x using Option.casesOn with
 |none=>
   rw [hh] at hE qA
   have:v=.none:=hE
   subst this
   wtm_at "W"
   exact nx F2 qV qA
 |some p=>
   obtain ⟨s,g,o⟩:=p
   rw [hh] at hE qA
   have hE:lI C jA v s g o:=hE
   have h1:=hE.ya
   have h2:=hE.sort
   have h3:=hE.sight
   have hs:=(O.o8 x hx s g o hh).2
   dsimp only at qA
   by_cases ha:s=lN
   ·subst ha
    rw [if_pos rfl] at qA
    induction sg using Option.casesOn with
   |none=>
     have e1:A2 none=.none:=rfl
     rw [e1]
     wtm_at "W"
     exact nx (GA:=some g) F2 qV qA
   |some g0=>
     have e1:A2 (some g0)=.str g0:=rfl
     rw [e1]
     wtm_at "W"
     exact nx (GA:=some g0) F2 qV qA
   ·have h4:sq s lN=false:=by
     induction h:sq s lN using Bool.casesOn with
    |false=>rfl
    |true=>exact absurd (kj.mp h) ha
    have h5:nh .NotEq (.str s) (.str lN) jA=some true:=by show some (!sq s lN)=_;rw [h4];rfl
    rw [if_neg ha] at qA
    by_cases hz:s=nH
    ·subst hz
     rw [if_pos rfl] at qA
     wtm_at "W"
     refine jO ⟨F2,qV,?_⟩
     rw [qA]
     rfl
    ·have h6:sq s nH=false:=by
      induction h:sq s nH using Bool.casesOn with
     |false=>rfl
     |true=>exact absurd (kj.mp h) hz
     have h7:nh .Eq (.str s) (.str nH) jA=some false:=by show some (sq s nH)=_;rw [h6]
     rw [if_neg hz] at qA
     induction sg using Option.casesOn with
    |none=>
      have e1:A2 none=.none:=rfl
      rw [e1]
      wtm_at "W"
      refine jO ⟨F2,qV,?_⟩
      rw [qA]
      exact ⟨s,hE⟩
    |some g0=>
      have e1:A2 (some g0)=.str g0:=rfl
      rw [e1]
      wtm_at "W"
      refine (amj hE (by wtm_at "o")).AF λv' jD K3 h8=>?_
      refine jO ⟨F2.ke K3,qV.trans K3.kR,?_⟩
      rw [qA]
      exact ⟨s,h8⟩
 ·intro y jt I
  refine pU I λF1 S1 MH=>?_
  have qA:=MH [] (bU l).symm
  wtm_at "W"
  refine jO ⟨F1,S1,?_⟩
  rw [qA]
  rfl
theorem MJ(hn:n∈C.ns)(hK:140<=K):jw K (.st (.ref 370)) [.ref 1 C.jW,C.m n,.str C.name] η λv jt=>WF C jt/\kg η jt/\XT C jt v (oj C none (C.line n)):=by
 refine jw.le (k:=140) ?_ hK
 refine jw.at (as:=[.ref 1 C.jW,C.m n,.str C.name]) 0 akO (by wtm_at "o") rfl (by kernel_rfl) ?_;intro _ _
 unfold Wf
 wtm_at "W"
 refine (XO O F hn (by wtm_at "o")).Xg λj jB F1 S1 h2=>?_
 obtain ⟨l1,l2⟩:=A1 O 9 hn (by have:=O.deep n hn;exact yv this)
 wtm_at "W"
 refine (amk O F1 l1 (Ip l2) h2 (by wtm_at "o")).pM λv jA F2 S2 h3=>?_
 exact jO ⟨F2,S1.trans S2,h3⟩
end
end
section
noncomputable def wL(C:Cfg):Nat->Option Str->Option Str
|0,_=>none
|_+1,none=>none
|f+1,some p=>match C.own p with
 |some x=>some x
 |none=>wL C f (C.jJ p)
def vz(C:Cfg)(n:Str):Str:=match C.own n with
|some x=>x
|none=>(if C.cls n=true/\C.nj n=false then wL C 11 (C.jJ n) else none).getD (C.owner n)
noncomputable def sD(C:Cfg):Nat->Str->Str
|0,n=>n
|f+1,n=>if C.nj n=true then match C.jJ n with
 |some p=>sD C f p
 |none=>n
  else n
def Val(C:Cfg)(v:PV)(h:Str):Prop:=
 (v=.int 5/\h=kG)\/(v=.none/\h=kH)\/
 (∃i fs o c,v=.ref 1 i/\C.fix i=some (.inst 38 fs)/\jv fs nY=some (C.opt o)/\jv fs l0=some (C.m c)/\(∀x,o=some x->x∈C.ns)/\c∈C.ns/\h=o.getD c)\/
 (∃n∈C.ns,v=C.m n/\h=vz C n)
section
variable(O:lS C)(F:WF C η)
include O F
theorem WF.wm{f:Addr}(A3:nm=rY\/nm=wi\/nm=pG\/nm=yP\/nm=uw)(hf:(jL tab.meths 1054).bind (jv · nm)=some f):pN tab (.ref 1 C.jW) nm η=some (.fn f (some (.ref 1 C.jW))):=by
 refine aeW (O.jW) λws h1 J J J J g1 g2 g3 g4 g5=>?_
 refine Gz (F.fix _ _ h1) hf ?_
 rcases A3 with rfl|rfl|rfl|rfl|rfl<;>assumption
omit O in
theorem XU(hn:n∈C.ns)(hK:10<=K):jw K (.st (.ref 223)) [C.m n] η λv jt=>v=.bool (C.nj n)/\jt=η:=by
 refine jw.le (k:=10) ?_ hK
 refine jw.at (as:=[C.m n]) 0 V0 (by wtm_at "o") rfl (by kernel_rfl) ?_;intro _ _
 unfold Md
 refine jZ (F.attached hn) λv h1 h2=>?_
 wtm_at "W"
 exact jO ⟨by rw [gN],rfl⟩
omit O in
theorem WF.XV(hn:n∈C.ns):pN tab (C.m n) wk η=some (.fn 223 (some (C.m n))):=by
 refine jZ (F.mod n hn) λfs a b=>?_
 exact Gz a (by kernel_rfl) b.Dc
theorem XW{x:Str}(hx:x=kG\/x=kH)(hK:20<=K):jw K (.st (.ref 835)) [.ref 1 C.jW,.str x] η λv jt=>v=C.m x/\jt=η:=by
 refine jw.le (k:=20) ?_ hK
 refine jw.at (as:=[.ref 1 C.jW,.str x]) 0 WC (by wtm_at "o") rfl (by kernel_rfl) ?_;intro _ _
 unfold Mi
 have a1:=F.made O
 refine Er (O.made) λl u h1 h2 h3=>?_
 have g1:=F.fix _ _ h1
 have g2:jv l x=some (C.m x):=by rcases hx with rfl|rfl<;>assumption
 wtm_at "W"
 refine jY (uH g1 (by decide +kernel)) ?_
 wtm_at "W"
 refine oE (rE g1 (MF g2)) ?_
 have:mJ (C.m x)=false:=rfl
 wtm_at "W"
 exact jO ⟨rfl,rfl⟩
theorem XX{x:Str}(hv:(v=.int 5/\x=kG)\/(v=.none/\x=kH))(hK:40<=K):jw K (.st (.ref 862)) [.ref 1 C.jW,v] η λv jt=>v=C.m x/\jt=η:=by
 refine jw.le (k:=40) ?_ hK
 refine jw.at (as:=[.ref 1 C.jW,v]) 0 WK (by wtm_at "o") rfl (by kernel_rfl) ?_;intro _ _
 unfold Mj
 have m1:=F.wm O (nm:=pG) (by simp) (f:=835) (by kernel_rfl)
 rcases hv with ⟨rfl,rfl⟩|⟨rfl,rfl⟩
 ·wtm_at "W"
  refine jw.nB (by wtm_at "o") (by intro _ h;cases h) (show _=some (.bool false,_) from rfl) ?_
  wtm_at "W"
  refine jw.nB (by wtm_at "o") (by intro _ h;cases h) (show _=some (.bool true,_) from rfl) ?_
  wtm_at "W"
  refine (XW O F (.inl rfl) (by wtm_at "o")).mono λv jt h=>?_
  exact jO h
 ·wtm_at "W"
  refine (XW O F (.inr rfl) (by wtm_at "o")).mono λv jt h=>?_
  exact jO h
end
def XY:jF:=match AA with
|.cons _ (.cons (.ri _ b) _)=>b
|_=>.nil
section
variable(O:lS C)(F:WF C η)
include O F
theorem XZ{Q:Fl->Sl->AH->Prop}{a b:PV}:∀(w:Nat) (o:Option Str),(∀x,o=some x->x∈C.ns/\C.depth x+1<w)->0<w->
  (∀x,wL C w o=some x->x∈C.ns->∀e,Q (.ret (C.m x)) e η)->(wL C w o=none->∀u,Q .next [some a,some b,u] η)->
  qL (λe η Q=>W k (.cmp .IsNot (.v 2) (.k .none)) e η Q) (λe η Q=>WS k XY 0 e η Q) w [some a,some b,some (C.opt o)] η Q
|0,_,_,hw,_,_=>absurd hw (dc rfl)
|w+1,none,_,_,_,q=>by
  refine xW ?_
  have:mJ (C.opt none)=true:=rfl
  wtm_at "W"
  exact q rfl _
|w+1,some x,hx,_,q1,q2=>by
  have h:=hx x rfl
  have a1:=F.own h.1
  have a2:=F.parent h.1
  unfold wL at q1 q2
  refine xW ?_
  have:mJ (C.opt (some x))=false:=rfl
  rw [show C.opt (some x)=C.m x from rfl] at this ⊢
  wtm_at "W"
  unfold XY AA
  dsimp only
  induction ho:C.own x using Option.casesOn with
 |some y=>
   rw [ho] at a1 q1
   have:mJ (C.opt (some y))=false:=rfl
   wtm_at "W"
   exact q1 y rfl (O.own x h.1 y ho) _
 |none=>
   rw [ho] at a1 q1 q2
   have:mJ (C.opt none)=true:=rfl
   wtm_at "W"
   exact XZ w (C.jJ x) (λp hp=>by have:=O.jJ x h.1 p hp;exact ⟨this.1,av this.2 (cj h.2)⟩) (cG (cj h.2)) q1 q2
end
end
section
theorem aml(η:AH):qF tab (.builtin "isinstance") [.int 5,.st (.ref 38)] η=some (.bool false,η):=by kernel_rfl
theorem amm(η:AH):qF tab (.builtin "isinstance") [.none,.st (.ref 38)] η=some (.bool false,η):=by kernel_rfl
def X3:jF:=match Ge with
|.cons (.ri _ b) _=>b
|_=>.nil
section
variable(O:lS C)(F:WF C η)
include O F
theorem amn(hn:n∈C.ns)(ho:C.own n=none)(hK:60<=K):jw K (.st (.ref 876)) [.ref 1 C.jW,C.m n] η λv jt=>v=C.m (vz C n)/\vz C n∈C.ns/\jt=η:=by
 generalize hm:vz C n=m
 unfold vz at hm
 rw [ho] at hm
 dsimp only at hm
 refine jw.le (k:=60) ?_ hK
 refine jw.at (as:=[.ref 1 C.jW,C.m n]) 11 ala (by wtm_at "o") rfl (by kernel_rfl) ?_;intro _ _
 unfold AA
 have a1:=F.xX hn
 have a2:=F.XV hn
 have a3:=F.parent hn
 have a4:=F.owner hn
 have fin:∀(o:Option Str),(∀x,o=some x->x∈C.ns/\C.depth x+1<11)->(wL C 11 o).getD (C.owner n)=m->∀v,v=C.opt o->WS (60 - (7+11+1)) (match AA with|.cons _ r=>r|_=>.nil) 11 [some (.ref 1 C.jW),some (C.m n),some v] η (nK λv jt=>v=C.m m/\m∈C.ns/\jt=η):=by
  rintro o hx rfl v rfl
  unfold AA
  dsimp only
  wtm_at "W"
  refine XZ (k:=60 - (7+11+1)) O F 11 o hx (dc rfl) (λx h1 h2 e=>?_) (λh1 u=>?_)
  ·refine jO ?_
   rw [h1]
   exact ⟨rfl,h2,rfl⟩
  ·wtm_at "W"
   refine jO ?_
   rw [h1]
   exact ⟨rfl,O.owner n hn,rfl⟩
 have jJ:∀x,C.jJ n=some x->x∈C.ns/\C.depth x+1<11:=λx hp=>by
  have h1:=O.jJ n hn x hp
  have h2:=O.deep n hn
  exact ⟨h1.1,bP (av h1.2 h2) (dc rfl)⟩
 induction hc:C.cls n using Bool.casesOn with
|false=>
  rw [hc] at a1
  rw [hc,if_neg (by simp)] at hm
  wtm_at "W"
  exact fin none (λx h=>nomatch h) hm _ rfl
|true=>
  rw [hc] at a1 hm
  wtm_at "W"
  refine (XU F hn (by wtm_at "o")).same ?_
  induction uI:C.nj n using Bool.casesOn with
 |false=>
   rw [uI,if_pos ⟨rfl,rfl⟩] at hm
   iterate 5 wtm_at "s"
   exact fin (C.jJ n) jJ hm _ rfl
 |true=>
   rw [uI,if_neg (by simp)] at hm
   iterate 5 wtm_at "s"
   exact fin none (λx h=>nomatch h) hm _ rfl
theorem GB(hv:Val C v h)(hK:80<=K):jw K (.st (.ref 869)) [.ref 1 C.jW,v] η λu jt=>u=C.m h/\h∈C.ns/\jt=η:=by
 refine jw.le (k:=80) ?_ hK
 refine jw.at (as:=[.ref 1 C.jW,v]) 0 ak9 (by wtm_at "o") rfl (by kernel_rfl) ?_;intro _ _
 unfold WN
 have m1:=F.wm O (nm:=wi) (by simp) (f:=862) (by kernel_rfl)
 have m2:=F.wm O (nm:=yP) (by simp) (f:=876) (by kernel_rfl)
 rcases hv with ⟨rfl,rfl⟩|⟨rfl,rfl⟩|⟨i,fs,o,c,rfl,h1,h2,h3,h4,h5,rfl⟩|⟨n,hn,rfl,rfl⟩
 ·wtm_at "W"
  refine jw.nB (by wtm_at "o") (by intro _ h;cases h) (aml η) ?_
  wtm_at "W"
  refine (XX O F (.inl ⟨rfl,rfl⟩) (by wtm_at "o")).AF λv jt h1 h2=>?_
  exact jO ⟨h1,O.Mp.1,h2⟩
 ·wtm_at "W"
  refine jw.nB (by wtm_at "o") (by intro _ h;cases h) (amm η) ?_
  wtm_at "W"
  refine (XX O F (.inr ⟨rfl,rfl⟩) (by wtm_at "o")).AF λv jt h1 h2=>?_
  exact jO ⟨h1,O.Mp.2,h2⟩
 ·have g1:=F.fix _ _ h1
  have a1:kE tab (.ref 1 i) nY η=some (C.opt o):=rD g1 (by kernel_rfl) h2 (Mr o)
  have a2:kE tab (.ref 1 i) l0 η=some (C.m c):=rD g1 (by kernel_rfl) h3 rfl
  have i1:C7 η (.ref 1 i) 38:=⟨_,_,_,rfl,g1⟩
  wtm_at "W"
  refine jw.nB (by wtm_at "o") (by intro _ h;cases h) (Gl i1 Gm Gm (b:=true) rfl) ?_
  induction o using Option.casesOn with
 |some x=>
   have:mJ (C.opt (some x))=false:=rfl
   wtm_at "W"
   exact jO ⟨rfl,h4 x rfl,rfl⟩
 |none=>
   have:mJ (C.opt none)=true:=rfl
   wtm_at "W"
   refine jw.nB (by wtm_at "o") (by intro _ h;cases h) (Gl i1 Gm AJ (b:=false) rfl) ?_
   wtm_at "W"
   exact jO ⟨rfl,h5,rfl⟩
 ·have a1:=F.own hn
  have i1:=F.inst hn
  wtm_at "W"
  refine jw.nB (by wtm_at "o") (by intro _ h;cases h) (Gl i1 AJ Gm (b:=true) rfl) ?_
  induction ho:C.own n using Option.casesOn with
 |some x=>
   rw [ho] at a1
   have:mJ (C.opt (some x))=false:=rfl
   wtm_at "W"
   have e:vz C n=x:=by unfold vz;rw [ho]
   exact jO ⟨by rw [e];rfl,by rw [e];exact O.own n hn x ho,rfl⟩
 |none=>
   rw [ho] at a1
   have:mJ (C.opt none)=true:=rfl
   wtm_at "W"
   refine jw.nB (by wtm_at "o") (by intro _ h;cases h) (Gl i1 AJ AJ (b:=true) rfl) ?_
   wtm_at "W"
   refine (amn O F hn ho (by wtm_at "o")).mono λv jt h=>?_
   exact jO h
theorem X4{Q:Fl->Sl->AH->Prop}{a:PV}(hk:10<=k):∀(w:Nat) (n:Str),n∈C.ns->C.depth n<w->(sD C w n∈C.ns->Q .next [some a,some (C.m (sD C w n))] η)->
  qL (λe η Q=>W k (.mr (.v 1) wk .nil) e η Q) (λe η Q=>WS k X3 0 e η Q) w [some a,some (C.m n)] η Q
|0,n,_,hw,_=>absurd hw (uQ)
|w+1,n,hn,hd,q=>by
  have a2:=F.XV hn
  have a3:=F.parent hn
  refine xW ?_
  wtm_at "W"
  refine (XU F hn hk).AF λv jt h1 h2=>?_
  rw [h1,h2]
  unfold sD at q
  induction uI:C.nj n using Bool.casesOn with
 |false=>
   rw [uI,if_neg (by simp)] at q
   exact Gh rfl (q hn)
 |true=>
   rw [uI,if_pos rfl] at q
   refine Ml rfl ?_
   unfold X3 Ge
   dsimp only
   refine o6 (O.Gn n hn uI) λp hp=>?_
   rw [hp] at q a3
   have h:=O.jJ n hn p hp
   wtm_at "W"
   exact X4 hk w p h.1 (qY hd h.2) q
theorem MN(hn:n∈C.ns)(hK:40<=K):jw K (.st (.ref 890)) [.ref 1 C.jW,C.m n] η λv jt=>v=C.m (sD C 11 n)/\sD C 11 n∈C.ns/\jt=η:=by
 refine jw.le (k:=40) ?_ hK
 refine jw.at (as:=[.ref 1 C.jW,C.m n]) 11 alb (by wtm_at "o") rfl (by kernel_rfl) ?_;intro _ _
 unfold Ge
 wtm_at "W"
 refine X4 (k:=40 - (4+11+1)) O F (dc rfl) 11 n hn (by have:=O.deep n hn;exact Ib this) λh=>?_
 wtm_at "W"
 exact jO ⟨rfl,h,rfl⟩
theorem A4(hv:Val C v h)(hn:n∈C.ns)(hK:160<=K):jw K (.st (.ref 412)) [.ref 1 C.jW,v,C.m n] η λu jt=>u=.bool (decide (n∈C.line h))/\WF C jt/\kg η jt:=by
 refine jw.le (k:=160) ?_ hK
 refine jw.at (as:=[.ref 1 C.jW,v,C.m n]) 0 akU (by wtm_at "o") rfl (by kernel_rfl) ?_;intro _ _
 unfold Wl
 have m1:=F.wm O (nm:=rY) (by simp) (f:=869) (by kernel_rfl)
 wtm_at "W"
 refine (GB O F hv (by wtm_at "o")).ny λjt h2 h3=>?_
 subst h3
 wtm_at "W"
 refine (XO O F h2 (by wtm_at "o")).Xg λj jB F1 S1 h4=>?_
 obtain ⟨l1,l2⟩:=A1 O 9 h2 (by have:=O.deep h h2;exact yv this)
 wtm_at "W"
 refine (alM O F1 hn l1 (Ip l2) h4 (by wtm_at "o")).same ?_
 exact jO ⟨rfl,F1,S1⟩
theorem GC{b:Bool}(hv:Val C v h)(hK:180<=K):jw K (.st (.ref 419)) [.ref 1 C.jW,v,.str C.name,.bool b] η λu jt=>u=.bool (match oj C none (C.line h) with|none=>false|some (g,_)=>b || sq g kU)/\WF C jt/\kg η jt:=by
 refine jw.le (k:=180) ?_ hK
 refine jw.at (as:=[.ref 1 C.jW,v,.str C.name,.bool b]) 0 akV (by wtm_at "o") rfl (by kernel_rfl) ?_;intro _ _
 unfold Wm
 have m1:=F.wm O (nm:=rY) (by simp) (f:=869) (by kernel_rfl)
 wtm_at "W"
 refine (GB O F hv (by wtm_at "o")).ny λjt h2 h3=>?_
 subst h3
 wtm_at "W"
 refine (MJ O F h2 (by wtm_at "o")).pM λu jB F1 S1 h4=>?_
 induction hf:oj C none (C.line h) using Option.casesOn with
|none=>
  rw [hf] at h4
  have:u=.none:=h4
  subst this
  wtm_at "W"
  exact jO ⟨by rw [hf];rfl,F1,S1⟩
|some p=>
  obtain ⟨g,o⟩:=p
  rw [hf] at h4
  refine o6 (h4) λs hE=>?_
  have e1:=hE.ya
  have e2:=hE.sight
  induction b using Bool.casesOn with
 |true=>
   wtm_at "W"
   exact jO ⟨by rw [hf];rfl,F1,S1⟩
 |false=>
   wtm_at "W"
   exact jO ⟨by rw [hf];rfl,F1,S1⟩
end
end
section
def rF(C:Cfg)(o:Str):Str:=if C.cls o=true then sD C 11 o else o
def sends(C:Cfg)(hs o:Str):Bool:=decide (rF C o∈C.line hs)
section
variable(O:lS C)(F:WF C η)
include O F
theorem X5{me:PV}{hs:Str}(hv:Val C v h)(hm:Val C me hs)(amo:∀g o,oj C none (C.line h)=some (g,o)->o∈C.ns/\(g=kU\/g=mq\/g=nQ))(hK:200<=K):jw K (.st (.ref 426)) [.ref 1 C.jW,me,v,.str C.name] η λu jt=>u=.bool (match oj C none (C.line h) with|none=>false|some (g,o)=>sq g kU || (sq g mq && sends C hs o))/\WF C jt/\kg η jt:=by
 generalize hR:(match oj C none (C.line h) with|none=>false|some (g,o)=>sq g kU || (sq g mq && sends C hs o))=R
 refine jw.le (k:=200) ?_ hK
 refine jw.at (as:=[.ref 1 C.jW,me,v,.str C.name]) 0 akW (by wtm_at "o") rfl (by kernel_rfl) ?_;intro _ _
 unfold Wn
 have m1:=F.wm O (nm:=rY) (by simp) (f:=869) (by kernel_rfl)
 wtm_at "W"
 refine (GB O F hv (by wtm_at "o")).ny λjt h2 h3=>?_
 subst h3
 wtm_at "W"
 refine (MJ O F h2 (by wtm_at "o")).pM λu jB F1 S1 h4=>?_
 induction hf:oj C none (C.line h) using Option.casesOn with
|none=>
  rw [hf] at h4 hR
  have:u=.none:=h4
  subst this
  wtm_at "W"
  exact jO ⟨congrArg PV.bool hR,F1,S1⟩
|some p=>
  obtain ⟨g,o⟩:=p
  obtain ⟨ho,hg⟩:=amo g o hf
  rw [hf] at h4 hR
  obtain ⟨s,hE⟩:=h4
  have e1:=hE.ya
  have e2:=hE.sight
  rcases hg with rfl|rfl|rfl
  ·wtm_at "W"
   exact jO ⟨congrArg PV.bool hR,F1,S1⟩
  ·have a1:=hE.owner
   have a2:=F1.xX ho
   have m2:=F1.wm O (nm:=uw) (by simp) (f:=890) (by kernel_rfl)
   induction hc:C.cls o using Bool.casesOn with
  |true=>
    rw [hc] at a2
    have et:rF C o=sD C 11 o:=if_pos hc
    wtm_at "W"
    refine (MN O F1 ho (by wtm_at "o")).ny λjt q2 q3=>?_
    subst q3
    wtm_at "W"
    refine (A4 O F1 hm q2 (by wtm_at "o")).pM λu jA h5 F2 S2=>?_
    rw [<-et] at h5
    exact jO ⟨h5.trans (congrArg PV.bool hR),F2,S1.trans S2⟩
  |false=>
    rw [hc] at a2
    have et:rF C o=o:=if_neg (by rw [hc];simp)
    wtm_at "W"
    refine (A4 O F1 hm ho (by wtm_at "o")).pM λu jA h5 F2 S2=>?_
    have h5:u=.bool (sends C hs o):=by rw [h5];unfold sends;rw [et]
    exact jO ⟨h5.trans (congrArg PV.bool hR),F2,S1.trans S2⟩
  ·wtm_at "W"
   exact jO ⟨congrArg PV.bool hR,F1,S1⟩
def MP(η:AH)(a:Str)(me:PV)(v:PV):Prop:=v=.none\/∃c,mJ v=false/\kE tab v a η=some c/\kE tab c yR η=some me
theorem amq{MQ fr sent me:PV}{s o hs kind:Str}(hm:kE tab MQ yS η=some (.ref 1 C.jW))(hf:MP η lB me fr)(hse:kE tab sent wo η=some (.str kind))(hE:lI C η v s g o)(ho:o∈C.ns)(sE:Val C me hs)
  (hg:g=kU\/g=mq\/g=nQ) (hk:kind=lB\/kind=pY\/kind=pZ\/kind=Aa) (hK:200<=K) :
  jw K (.st (.ref 526)) [MQ,fr,sent,v] η λu jt=>u=.bool (!((sq kind pY || sq kind pZ) || sq g kU || (sq kind lB && sq g mq && !mJ fr && sends C hs o)))/\WF C jt/\kg η jt:=by
 generalize hR:(!((sq kind pY || sq kind pZ) || sq g kU || (sq kind lB && sq g mq && !mJ fr && sends C hs o)))=R
 refine jw.le (k:=200) ?_ hK
 refine jw.at (as:=[MQ,fr,sent,v]) 0 ak0 (by wtm_at "o") rfl (by kernel_rfl) ?_;intro _ _
 unfold Ws
 have e2:=hE.sight
 rcases hk with rfl|rfl|rfl|rfl
 ·rcases hg with rfl|rfl|rfl
  ·wtm_at "W"
   exact jO ⟨congrArg PV.bool hR,F,kg.refl _⟩
  ·rcases hf with rfl|⟨c,h1,h2,h3⟩
   ·wtm_at "W"
    exact jO ⟨congrArg PV.bool hR,F,kg.refl _⟩
   ·rw [h1] at hR
    have a1:=hE.owner
    have a2:=F.xX ho
    have m2:=F.wm O (nm:=uw) (by simp) (f:=890) (by kernel_rfl)
    induction hc:C.cls o using Bool.casesOn with
   |true=>
     rw [hc] at a2
     have et:rF C o=sD C 11 o:=if_pos hc
     wtm_at "W"
     refine (MN O F ho (by wtm_at "o")).ny λjt q2 q3=>?_
     subst q3
     wtm_at "W"
     refine (A4 O F sE q2 (by wtm_at "o")).pM λu jA h5 F2 S2=>?_
     rw [<-et] at h5
     subst h5
     refine ⟨_,rfl,jO ⟨?_,F2,S2⟩⟩
     subst hR
     unfold sends
     generalize decide (rF C o∈C.line hs)=b
     cases b<;>rfl
   |false=>
     rw [hc] at a2
     have et:rF C o=o:=if_neg (by rw [hc];simp)
     wtm_at "W"
     refine (A4 O F sE ho (by wtm_at "o")).pM λu jA h5 F2 S2=>?_
     have h5:u=.bool (sends C hs o):=by rw [h5];unfold sends;rw [et]
     subst h5
     refine ⟨_,rfl,jO ⟨?_,F2,S2⟩⟩
     subst hR
     unfold sends
     generalize decide (rF C o∈C.line hs)=b
     cases b<;>rfl
  ·rcases hf with rfl|⟨c,h1,h2,h3⟩
   ·wtm_at "W"
    exact jO ⟨congrArg PV.bool hR,F,kg.refl _⟩
   ·rw [h1] at hR
    wtm_at "W"
    exact jO ⟨congrArg PV.bool hR,F,kg.refl _⟩
 ·wtm_at "W"
  exact jO ⟨congrArg PV.bool hR,F,kg.refl _⟩
 ·wtm_at "W"
  exact jO ⟨congrArg PV.bool hR,F,kg.refl _⟩
 ·rcases hg with rfl|rfl|rfl
  ·wtm_at "W"
   exact jO ⟨congrArg PV.bool hR,F,kg.refl _⟩
  ·wtm_at "W"
   exact jO ⟨congrArg PV.bool hR,F,kg.refl _⟩
  ·wtm_at "W"
   exact jO ⟨congrArg PV.bool hR,F,kg.refl _⟩
theorem amr{task rc me:PV}{s o hs how:Str}(ev:PV)(ht:kE tab task z4 η=some ev)(hf:MP η lB me ev)(hE:lI C η v s g o)(ho:o∈C.ns)(sE:Val C me hs)
  (hg:g=kU\/g=mq\/g=nQ) (hk:how=lB\/how=pY\/how=pZ) (hK:200<=K) :
  jw K (.st (.ref 765)) [.ref 1 C.jW,task,rc,v,.str how] η λu jt=>u=(if (!sq how lB || sq g kU || (sq g mq && !mJ ev && sends C hs o))=true then .none else .str g)/\WF C jt/\kg η jt:=by
 generalize hR:(if (!sq how lB || sq g kU || (sq g mq && !mJ ev && sends C hs o))=true then PV.none else .str g)=R
 refine jw.le (k:=200) ?_ hK
 refine jw.at (as:=[.ref 1 C.jW,task,rc,v,.str how]) 0 Wx (by wtm_at "o") rfl (by kernel_rfl) ?_;intro _ _
 unfold Mh
 have e1:=hE.ya
 have e2:=hE.sight
 rcases hk with rfl|rfl|rfl
 ·rcases hg with rfl|rfl|rfl
  ·wtm_at "W"
   exact jO ⟨hR,F,kg.refl _⟩
  ·rcases hf with rfl|⟨c,h1,h2,h3⟩
   ·wtm_at "W"
    exact jO ⟨hR,F,kg.refl _⟩
   ·rw [h1] at hR
    have a1:=hE.owner
    have a2:=F.xX ho
    have m2:=F.wm O (nm:=uw) (by simp) (f:=890) (by kernel_rfl)
    induction hc:C.cls o using Bool.casesOn with
   |true=>
     rw [hc] at a2
     have et:rF C o=sD C 11 o:=if_pos hc
     wtm_at "W"
     refine (MN O F ho (by wtm_at "o")).ny λjt q2 q3=>?_
     subst q3
     wtm_at "W"
     refine (A4 O F sE q2 (by wtm_at "o")).pM λu jA h5 F2 S2=>?_
     rw [<-et] at h5
     subst h5
     unfold sends at hR
     generalize decide (rF C o∈C.line hs)=b at hR ⊢
     induction b using Bool.casesOn with
    |true=>
      wtm_at "W"
      exact jO ⟨hR,F2,S2⟩
    |false=>
      wtm_at "W"
      exact jO ⟨hR,F2,S2⟩
   |false=>
     rw [hc] at a2
     have et:rF C o=o:=if_neg (by rw [hc];simp)
     wtm_at "W"
     refine (A4 O F sE ho (by wtm_at "o")).pM λu jA h5 F2 S2=>?_
     have h5:u=.bool (sends C hs o):=by rw [h5];unfold sends;rw [et]
     subst h5
     unfold sends at hR ⊢
     generalize decide (rF C o∈C.line hs)=b at hR ⊢
     induction b using Bool.casesOn with
    |true=>
      wtm_at "W"
      exact jO ⟨hR,F2,S2⟩
    |false=>
      wtm_at "W"
      exact jO ⟨hR,F2,S2⟩
  ·rcases hf with rfl|⟨c,h1,h2,h3⟩
   ·wtm_at "W"
    exact jO ⟨hR,F,kg.refl _⟩
   ·rw [h1] at hR
    wtm_at "W"
    exact jO ⟨hR,F,kg.refl _⟩
 ·wtm_at "W"
  exact jO ⟨hR,F,kg.refl _⟩
 ·wtm_at "W"
  exact jO ⟨hR,F,kg.refl _⟩
omit O in
theorem ams{task rc how:PV}(hK:20<=K):jw K (.st (.ref 765)) [.ref 1 C.jW,task,rc,.none,how] η λu jt=>u=.str qw/\jt=η:=by
 refine jw.le (k:=20) ?_ hK
 refine jw.at (as:=[.ref 1 C.jW,task,rc,.none,how]) 0 Wx (by wtm_at "o") rfl (by kernel_rfl) ?_;intro _ _
 unfold Mh
 wtm_at "W"
 exact jO ⟨rfl,rfl⟩
end
end
structure lO(η:AH)(c:Nat):Prop where
 at_:∃g b n:Int,η.get 0 1=some (.list [.int g,.int b,.int n])/\0<=g/\0<=b/\0<=n/\n<=c
structure Dr(η jt:AH):Prop where
 reg:jt.reg=η.reg
 ju:jt.ju=η.ju
 get:∀r i,¬ (r=0/\i=1)->jt.get r i=η.get r i
theorem Dr.refl(η:AH):Dr η η:=⟨rfl,rfl,λJ J J=>rfl⟩
theorem Dr.set(h:Dr η jt)(o:AO):Dr η (jt.set 0 1 o):=⟨by rw [AH.zg,h.reg],by rw [AH.AG,h.ju],λr i hn=>by rw [AH.ka hn,h.get r i hn]⟩
section
theorem pos_at{j:Int}(hj:0<=j)(A5:j<65536):yz (.int j)=some j.toNat:=lA (tu (decide_eq_true hj) (decide_eq_true A5)) rfl
theorem vA{r:Nat}{j:Int}(h:η.get r i=some (.list l))(hj:0<=j)(A5:j<65536)(hv:l[j.toNat]?=some v):jR tab (.ref r i) (.int j) η=some v:=jQ h (jQ (pos_at hj A5) hv)
theorem lV{r:Nat}{l:List (Str×PV)}{x:Str}(h:η.get r i=some (.sd l u))(hv:jv l x=some v):jR tab (.ref r i) (.str x) η=some v:=jQ h hv
theorem X6{r:Nat}{j:Int}(h:η.get r i=some (.list l))(hj:0<=j)(A5:j<l.length)(hl:l.length<=65536):nv (.ref r i) (.int j) v η=some (η.set r i (.list (l.set j.toNat v))):=jQ (o:=gR (.ref r i)) rfl (jQ h (jQ (pos_at hj (Int.lt_of_lt_of_le A5 (cF.mpr hl))) (lA (tu (dw.mpr ((Int.toNat_lt hj).mpr A5)) (mh hl)) rfl)))
theorem sF{m:Int}(h:lO η c)(hc:c<100000)(hm:0<m)(tP:m<65536)(hK:20<=K):jw K (.st (.ref 1114)) [.ref 0 1,.int m] η λv jt=>(∃d:Int,v=.int d/\0<=d/\d<m)/\lO jt (c+1)/\Dr η jt:=by
 refine jw.le (k:=20) ?_ hK
 refine jw.at (as:=[.ref 0 1,.int m]) 0 alj (by wtm_at "o") rfl (by kernel_rfl) ?_;intro _ _
 unfold WX
 refine Qx (h.at_) λg b n h0 hg hb hn sf=>?_
 have i0:jR tab (.ref 0 1) (.int 0) η=some (.int g):=vA h0 (dc rfl) (dc rfl) rfl
 have i2:jR tab (.ref 0 1) (.int 2) η=some (.int n):=vA h0 (dc rfl) (dc rfl) rfl
 have md:∀x:Int,qZ .Mod (.int x) (.int m) η=some (.int (cI x m),η):=λx=>by
  exact C6 (lA (decide_eq_true hm) rfl)
 have hmb:aY m.natAbs 1073741824=true:=by
  show bA (m.natAbs+1) 1073741824=true
  exact dw.mpr (ah (jm (eO hm) tP) (dc rfl))
 wtm_at "W"
 by_cases X7:0<g
 ·refine Ml (by show some (decide (0<g))=_;rw [decide_eq_true X7]) ?_
  wtm_at "W"
  refine mC (md g) ?_
  wtm_at "W"
  refine mC (v:=.int (Int.fdiv g m)) (u:=η) ?_ ?_
  ·exact C6 (lA (tu (decide_eq_true hm) hmb) rfl)
  wtm_at "W"
  refine jY (X6 h0 (dc rfl) (by simp) (by simp)) ?_
  wtm_at "W"
  refine jO ⟨⟨_,rfl,eF _ hm,gP _ hm⟩,⟨_,_,_,AH.lG h0,?_,hb,hn,by exact abz sf⟩,(Dr.refl η).set _⟩
  rw [Int.fdiv_eq_ediv_of_nonneg _ (Pz hm)]
  exact Int.ediv_nonneg hg (Pz hm)
 ·refine Gh (by show some (decide (0<g))=_;rw [decide_eq_false X7]) ?_
  wtm_at "W"
  refine mC (v:=.int (n+1)) (u:=η) rfl ?_
  wtm_at "W"
  refine jY (X6 h0 (dc rfl) (by simp) (by simp)) ?_
  have h1:(η.set 0 1 (.list [.int g,.int b,.int (n+1)])).get 0 1=some (.list [.int g,.int b,.int (n+1)]):=AH.lG h0
  have D1:=(Dr.refl η).set (.list [.int g,.int b,.int (n+1)])
  show WS _ _ _ _ (η.set 0 1 (.list [.int g,.int b,.int (n+1)])) _
  revert h1 D1
  generalize η.set 0 1 (.list [.int g,.int b,.int (n+1)])=jB
  intro h1 D1
  have j1:jR tab (.ref 0 1) (.int 1) jB=some (.int b):=vA h1 (dc rfl) (dc rfl) rfl
  have j2:jR tab (.ref 0 1) (.int 2) jB=some (.int (n+1)):=vA h1 (dc rfl) (dc rfl) rfl
  have sm:∀(x y:Int) (e:AH),0<=y->y<1073741824->qZ .Mult (.int x) (.int y) e=some (.int (x*y),e):=λx y e h1 h2=>by
   exact C6 (lA (dw.mpr (ah (jm h1 h2) (dc rfl))) rfl)
  have mm:∀(x y:Int) (e:AH),0<y->qZ .Mod (.int x) (.int y) e=some (.int (cI x y),e):=λx y e h1=>by
   exact C6 (lA (decide_eq_true h1) rfl)
  wtm_at "W"
  refine mC (sm _ _ _ (Iq hn) (PA hc sf)) ?_
  wtm_at "W"
  refine mC (sm _ _ _ (Iq hn) (PA hc sf)) ?_
  wtm_at "W"
  refine mC (v:=.int (b+7919*(n+1)*(n+1))) (u:=jB) rfl ?_
  wtm_at "W"
  refine mC (mm _ _ _ (dc rfl)) ?_
  have b1:=eF (b+7919*(n+1)*(n+1)) (show (0:Int)<1000003 by decide)
  have b2:=gP (b+7919*(n+1)*(n+1)) (show (0:Int)<1000003 by decide)
  generalize cI (b+7919*(n+1)*(n+1)) 1000003=x at b1 b2 ⊢
  wtm_at "W"
  refine mC (sm _ _ _ (by assumption) (abA b2)) ?_
  wtm_at "W"
  refine mC (mm _ _ _ (dc rfl)) ?_
  wtm_at "W"
  refine mC (v:=.int (Int.fdiv (cI (x*x) 999983) 7)) (u:=jB) rfl ?_
  wtm_at "W"
  refine mC (mm _ _ _ hm) ?_
  refine jO ⟨⟨_,rfl,eF _ hm,gP _ hm⟩,⟨_,_,_,h1,hg,hb,by exact Iq hn,by exact abB sf⟩,D1⟩
end
def mO:List Str:=[mj,qK,pP,qv,jK,jU,lQ,j6,uo,vd,m9]
def Dm(x:Str):Str:=(jv [(kP,jK),(lM,jS),(ku,jS),(nG,lZ)] x).getD x
noncomputable def jM(l:List Str):List PV:=l.map .str
section
theorem amt(hK:10<=K):jw K (.st (.ref 1079)) [] η λv jt=>v=.ref η.reg η.ju/\Ke η jt/\jt.get η.reg η.ju=some (.sd [(kP,.str jK),(lM,.str jS),(ku,.str jS),(nG,.str lZ)] 0):=by
 refine jw.le (k:=10) ?_ hK
 refine jw.at (as:=[]) 0 ale (by wtm_at "o") rfl (by kernel_rfl) ?_;intro _ _
 unfold WR
 wtm_at "W"
 exact jO ⟨rfl,(Ke.refl η).add _,AH.jT _ _⟩
theorem Dp(hK:10<=K):jw K (.st (.ref 1086)) [] η λv jt=>v=.ref η.reg η.ju/\Ke η jt/\jt.get η.reg η.ju=some (.list (jM mO)):=by
 refine jw.le (k:=10) ?_ hK
 refine jw.at (as:=[]) 0 alf (by wtm_at "o") rfl (by kernel_rfl) ?_;intro _ _
 unfold WT
 wtm_at "W"
 exact jO ⟨rfl,(Ke.refl η).add _,AH.jT _ _⟩
noncomputable def GD:List Str->Xs
|[]=>.nil
|x::r=>.cons (.k (.str x)) (GD r)
def zq:List (Str×List Str)->Ps
|[]=>.nil
|(x,l)::r=>.cons (.k (.str x)) (.list (GD l)) (zq r)
def putAll:List (Str×List Str)->List (Str×List Str)->List (Str×List Str)
|acc,[]=>acc
|acc,(x,l)::r=>putAll (jN acc x l) r
theorem X8{k:Nat}{e:Sl}{η:AH}:∀(l:List Str) {Q:List PV->AH->Prop},Q (jM l) η->WL k (GD l) e η Q
|[],Q,q=>q
|x::r,Q,q=>by
  unfold GD
  wtm_at "s";wtm_at "s"
  exact X8 r q
def zu(R:Nat)(η:AH)(d:List (Str×PV))(t:List (Str×List Str)):Prop:=∀x,(jv d x=none/\jv t x=none)\/∃i l,jv t x=some l/\jv d x=some (.ref R i)/\η.get R i=some (.list (jM l))
theorem X9{k:Nat}{e:Sl}{R:Nat}:∀(t:List (Str×List Str)) {η:AH} {d:List (Str×PV)} {acc:List (Str×List Str)} {Q:List (Str×PV)->AH->Prop},η.reg=R->(∀p∈t,p.2.length<=60000)->zu R η d acc->(∀d' jt,Ke η jt->zu R jt d' (putAll acc t)->Q d' jt)->WP k (zq t) e η d Q
|[],η,d,acc,Q,hR,hl,T,q=>q d η (Ke.refl _) T
|(x,l)::r,η,d,acc,Q,hR,hl,T,q=>by
  unfold zq
  wtm_at "s";wtm_at "s";wtm_at "s";wtm_at "s"
  refine X8 l ⟨mh (by have h:l.length<=60000:=hl (x,l) (by simp);unfold jM;simp only [aC];exact D0 h),?_⟩
  have K1:Ke η (η.add (.list (jM l))):=(Ke.refl η).add _
  refine X9 r (by rw [AH.oh];exact hR) (λp hp=>hl p (by simp [hp])) ?_ (λd' jt K2 T2=>q d' jt (K1.trans K2) T2)
  intro y
  rw [v5,v5]
  by_cases h:y=x
  ·rw [if_pos h,if_pos h]
   exact .inr ⟨_,_,rfl,by rw [hR],by rw [<-hR];exact AH.jT _ _⟩
  ·rw [if_neg h,if_neg h]
   rcases T y with h1|⟨i,l',h1,h2,h3⟩
   ·exact .inl h1
   ·exact .inr ⟨i,l',h1,h2,AH.lz h3⟩
theorem amu{R:Nat}:zu R η [] []:=λx=>.inl ⟨rfl,rfl⟩
def yc:List (Str×List Str):=[(mj,[kP,jK]),(qK,[jK]),(pP,[jU]),(qv,[lQ]),(jK,[lM,ku,jS]),(jU,[ku,jS]),(lQ,[ku,jS]),(j6,[nG,lZ]),(uo,[kG]),(vd,[kH]),(m9,[mV,jS])]
def A6:List (Str×List Str):=[(kP,[pP,qv,mj,qK]),(ku,[lQ,j6,m9,mj]),(lM,[lQ,j6,m9,mj]),(nG,[jK,j6,mj,uo])]
def qk:List (Str×List Str):=[(kZ,[kO]),(qJ,[qI])]
theorem amv:WU=.cons (.ret (.dict (zq yc))) .nil:=rfl
theorem amw:WV=.cons (.ret (.dict (zq A6))) .nil:=rfl
theorem amx:WQ=.cons (.ret (.dict (zq qk))) .nil:=rfl
theorem MR{a n:Nat}{b:jF}{t:List (Str×List Str)}(hc:codeOf tab a n=some (0,b))(hb:b=.cons (.ret (.dict (zq t))) .nil)(hm:MK.any (aj · a)=false)(hbd:s7 tab a []=some [])(hl:∀p∈t,p.2.length<=60000)(ht:putAll [] t=t)(hK:n+1<=K):
  jw K (.st (.ref a)) [] η λv jt=>Ke η jt/\∃j d,v=.ref η.reg j/\jt.get η.reg j=some (.sd d 0)/\zu η.reg jt d t:=by
 refine jw.at (as:=[]) 0 hc (by wtm_at "o") hm hbd ?_;intro _ _
 rw [hb]
 wtm_at "s";wtm_at "s";wtm_at "s"
 refine X9 t rfl hl amu λd jt K1 T=>?_
 rw [ht] at T
 refine jO ⟨K1.add _,_,d,by rw [K1.reg],by rw [<-K1.reg];exact AH.jT _ _,λx=>?_⟩
 rcases T x with h|⟨i,l,h1,h2,h3⟩
 ·exact .inl h
 ·exact .inr ⟨i,l,h1,h2,AH.lz h3⟩
theorem amy(hK:10<=K):jw K (.st (.ref 1093)) [] η λv jt=>Ke η jt/\∃j d,v=.ref η.reg j/\jt.get η.reg j=some (.sd d 0)/\zu η.reg jt d yc:=
 MR alg amv rfl (by kernel_rfl) (dc rfl) (by kernel_rfl) (Ir hK)
theorem amz(hK:10<=K):jw K (.st (.ref 1100)) [] η λv jt=>Ke η jt/\∃j d,v=.ref η.reg j/\jt.get η.reg j=some (.sd d 0)/\zu η.reg jt d A6:=
 MR alh amw rfl (by kernel_rfl) (dc rfl) (by kernel_rfl) (Ir hK)
theorem amA(hK:10<=K):jw K (.st (.ref 1072)) [] η λv jt=>Ke η jt/\∃j d,v=.ref η.reg j/\jt.get η.reg j=some (.sd d 0)/\zu η.reg jt d qk:=
 MR ald amx rfl (by kernel_rfl) (dc rfl) (by kernel_rfl) (Ir hK)
end
section
set_option genCtorIdx false in
structure Bk where
 above:Str->Option (Option Str)
 front:Str->Option (List Str)
 mix:Str->Option (List Str)
 has:Str->Option (Str×Str×Str)
 name:Str
 native:Str
 first:Str
 bk:Nat
 ab:Nat
 fr:Nat
 mx:Nat
 hs:Nat
 fix:Nat->Option AO
noncomputable def wM:Option Str->PV
|none=>.none
|some x=>.str x
def GF(fix:Nat->Option AO)(i:Nat)(f:Str->Option (List Str)):Prop:=(fix i=some .jE/\∀x,f x=none)\/∃d u,fix i=some (.sd d u)/\∀x,(jv d x=none/\f x=none)\/∃j l,jv d x=some (.ref 0 j)/\f x=some l/\fix j=some (.list (jM l))
noncomputable def lP(p:Str×Str×Str):PV:=.tup [.str p.1,.str p.2.1,.str p.2.2]
structure tQ(B:Bk):Prop where
 bk:∃d u,B.fix B.bk=some (.sd d u)/\jv d pW=some (.ref 0 B.ab)/\jv d pX=some (.ref 0 B.fr)/\jv d mW=some (.ref 0 B.mx)/\jv d ou=some (.ref 0 B.hs)/\jv d nX=some (.str B.name)/\jv d lu=some (.str B.native)/\jv d nc=some (.str B.first)
 above:∃d u,B.fix B.ab=some (.sd d u)/\∀x,jv d x=(B.above x).map wM
 front:GF B.fix B.fr B.front
 mix:GF B.fix B.mx B.mix
 has:∃d u,B.fix B.hs=some (.sd d u)/\∀x,jv d x=(B.has x).map lP
 well:B.fix 1=none
def BW(B:Bk)(η:AH):Prop:=∀i o,B.fix i=some o->η.get 0 i=some o
noncomputable def AV(B:Bk)(x:Str):List Str:=(B.front x).getD []
def AU(B:Bk)(x:Str):List Str:=(B.mix x).getD ((jv qk x).getD [])
structure CB(C:Cfg)(B:Bk):Prop where
 front:∀x∈C.ns,C.front x=AV B x
 mix:∀x∈C.ns,C.mix x=AU B x
 has:∀x∈C.ns,C.has x=B.has x
 above:∀x∈C.ns,B.above x=some (C.jJ x)
 name:C.name=B.name
noncomputable def kK(C:Cfg):Nat->Str->List Str
|0,_=>[]
|f+1,x=>(C.front x).reverse.flatMap (kK C f)++[x]++(C.mix x).reverse.flatMap (kK C f)
section
theorem BW.ke(h:Ke η jt)(b:BW B η):BW B jt:=λi o e=>h.get _ _ _ (b i o e)
theorem BW.kR(h:kg η jt)(b:BW B η):BW B jt:=λi o e=>h.get _ _ _ (dc rfl) (b i o e)
theorem Dq(O:lS C):∀(f:Nat) (x:Str),x∈C.ns->(∀g∈kK C f x,g∈C.ns)/\(kK C f x).length<=cnt f
|0,x,_=>⟨λg h=>(nomatch h),ak _⟩
|f+1,x,hx=>by
  have fm:∀(l:List Str),(∀g∈l,g∈C.ns)->(∀g∈l.flatMap (kK C f),g∈C.ns)/\(l.flatMap (kK C f)).length<=l.length*cnt f:=by
   intro l
   induction l with
  |nil=>intro _;exact ⟨λg h=>by simp at h,by simp⟩
  |cons a l ih=>
    intro h
    refine jP (ih λg hg=>h g (by simp [hg])) λh1 h2=>?_
    refine jP (Dq O f a (h a (by simp))) λh3 h4=>?_
    refine ⟨λg hg=>?_,?_⟩
    ·rw [dB] at hg
     rcases aH.mp hg with hg|hg
     ·exact h3 g hg
     ·exact h1 g hg
    ·rw [dB,aE,aZ,dD]
     exact ad3 h2 h4
  refine jP (fm (C.front x).reverse λg hg=>(O.front x hx g (by simpa using hg)).1) λa1 a2=>?_
  refine jP (fm (C.mix x).reverse λg hg=>(O.mix x hx g (by simpa using hg)).1) λb1 b2=>?_
  have lf:=O.AK x hx
  have lm:=O.AP x hx
  have m1:(C.front x).length*cnt f<=2*cnt f:=b9 _ lf
  have m2:(C.mix x).length*cnt f<=2*cnt f:=b9 _ lm
  rw [fG] at a2 b2
  unfold kK
  refine ⟨λg hg=>?_,?_⟩
  ·rcases aH.mp hg with hg|hg
   ·rcases aH.mp hg with hg|hg
    ·exact a1 g hg
    ·rw [aJ.mp hg];exact hx
   ·exact b1 g hg
  ·rw [aE,aE,jn]
   show _<=1+4*cnt f
   exact ad4 a2 b2 m1 m2
variable(G:tQ B)(b:BW B η)
include G b
theorem amB:jR tab (.ref 0 B.bk) (.str pX) η=some (.ref 0 B.fr):=by
 refine wY (G.bk) λd u h h1 h2 h3 h4 h5 h6 h7=>?_
 exact lV (b _ _ h) h2
theorem amC:jR tab (.ref 0 B.bk) (.str mW) η=some (.ref 0 B.mx):=by
 refine wY (G.bk) λd u h h1 h2 h3 h4 h5 h6 h7=>?_
 exact lV (b _ _ h) h3
theorem Yb:jR tab (.ref 0 B.bk) (.str pW) η=some (.ref 0 B.ab):=by
 refine wY (G.bk) λd u h h1 h2 h3 h4 h5 h6 h7=>?_
 exact lV (b _ _ h) h1
theorem amD:jR tab (.ref 0 B.bk) (.str ou) η=some (.ref 0 B.hs):=by
 refine wY (G.bk) λd u h h1 h2 h3 h4 h5 h6 h7=>?_
 exact lV (b _ _ h) h4
theorem amE:jR tab (.ref 0 B.bk) (.str nX) η=some (.str B.name):=by
 refine wY (G.bk) λd u h h1 h2 h3 h4 h5 h6 h7=>?_
 exact lV (b _ _ h) h5
theorem amF:jR tab (.ref 0 B.bk) (.str nc) η=some (.str B.first):=by
 refine wY (G.bk) λd u h h1 h2 h3 h4 h5 h6 h7=>?_
 exact lV (b _ _ h) h7
omit G in
theorem Yc{f:Str->Option (List Str)}(R:GF B.fix i f){x:Str}{Q:PV->AH->Prop}{L:List Str}
  (h:∀{Q':List PV->AH->Prop},(∀jt r j,Ke η jt->jt.get r j=some (.list (jM L))->Q' [.str x,.ref r j] jt)->WL k as e η Q')
  (q:∀jt r j,Ke η jt->jt.get r j=some (.list (jM ((f x).getD L)))->Q (.ref r j) jt) :
  ∃m,pN tab (.ref 0 i) oq η=some m/\WL k as e η λvs η=>WM k m oq vs η Q:=by
 rcases R with ⟨h1,h2⟩|⟨d,u,h1,h2⟩
 ·refine jY (xY (b _ _ h1)) (h λjt r j K1 hr=>?_)
  refine oE (xZ (K1.get _ _ _ (b _ _ h1)) rfl) (q jt r j K1 ?_)
  rw [h2 x]
  exact hr
 ·refine jY (uH (b _ _ h1) (by decide +kernel)) (h λjt r j K1 hr=>?_)
  rcases h2 x with ⟨h3,h4⟩|⟨j',l,h3,h4,h5⟩
  ·refine oE (rE (K1.get _ _ _ (b _ _ h1)) (Dk h3)) (q jt r j K1 ?_)
   rw [h4]
   exact hr
  ·refine oE (rE (K1.get _ _ _ (b _ _ h1)) (Dj h3)) (q jt 0 j' K1 ?_)
   rw [h4]
   exact K1.get _ _ _ (b _ _ h5)
end
theorem Yd{r:Nat}(h:η.get r i=some (.list l))(hl:l.length<=65536):Jo (.ref r i) η=some (.ref η.reg η.ju,η.add (.list l.reverse)):=jQ (o:=oJ (.ref r i) η) (oi h) (lA (mh hl) rfl)
theorem Ye(l:List Str):(jM l).reverse=jM l.reverse:=by unfold jM;rw [List.map_reverse]
theorem tR(l r:List Str):jM (l++r)=jM l++jM r:=by unfold jM;rw [aV]
theorem m6(l:List Str):(jM l).length=l.length:=by unfold jM;rw [aC]
section
theorem Yg(O:lS C)(G:tQ B)(H:CB C B):∀(f:Nat) (x:Str) (η:AH) (K:Nat),x∈C.ns->C.rank x<f->f<=3->BW B η->25*f<=K->jw K (.st (.ref 1152)) [.ref 0 B.bk,.str x] η λv jt=>v=.ref η.reg η.ju/\Ke η jt/\jt.get η.reg η.ju=some (.list (jM (kK C f x)))
|0,x,η,K,hx,hr,_,_,_=>absurd hr (uQ)
|f+1,x,η,K,hx,hr,hf,b,hK=>by
  refine jw.at (as:=[.ref 0 B.bk,.str x]) 0 alq (by wtm_at "o") rfl (by kernel_rfl) ?_;intro _ _
  unfold WY
  have K0:Ke η (η.add (.list [])):=(Ke.refl η).add _
  have b0:=b.ke K0
  have i0:=amB G b0
  have MT:cnt f<=5:=by
   have:f=0\/f=1\/f=2:=ad5 hf
   rcases this with rfl|rfl|rfl<;>decide
  wtm_at "W"
  refine Yc (x:=x) (L:=[]) b0 G.front ?_ ?_
  ·intro Q' q
   wtm_at "W"
   exact q _ _ _ ((Ke.refl _).add _) (AH.jT _ _)
  intro jB r j K1 hg
  have ef:(B.front x).getD []=C.front x:=(H.front x hx).symm
  rw [ef] at hg
  have lf:=O.AK x hx
  have K01:=K0.trans K1
  have f0:=K1.get _ _ _ (AH.jT η (.list []))
  refine mC (Yd hg (by rw [m6];exact Eb lf)) ?_
  rw [Ye]
  have loop:∀(gs:List Str) (pre:List Str) (jA:AH) (r j:Nat) (y:Option PV) (rest:jF) (Q:Fl->Sl->AH->Prop),(∀g∈gs,g∈C.ns/\C.rank g<f)->gs.length<=2->pre.length<=100->Ke η jA->jA.get η.reg η.ju=some (.list (jM pre))->jA.get r j=some (.list (jM gs))->¬ (r=η.reg/\j=η.ju)->
    (∀jD y,Ke jA jD\/Ke η jD->Ke η jD->jD.get η.reg η.ju=some (.list (jM (pre++gs.flatMap (kK C f))))->Q .next [some (.ref 0 B.bk),some (.str x),some (.ref η.reg η.ju),y] jD)->
    ∃S,rU false (.ref r j) jA=some S/\o9 (λe η Q=>WS (K - (9+0+1)) (.cons (.expr (.mr (.v 2) wj (.cons (.call (.st (.ref 1152)) (.cons (.v 0) (.cons (.v 3) .nil))) .nil))) .nil) 0 e η Q) (.one 3) S (S.len jA+1) 0 [some (.ref 0 B.bk),some (.str x),some (.ref η.reg η.ju),y] jA Q:=by
   intro gs pre jA r j y rest Q Ds Yh hpl K2 h1 h2 mQ q
   have fl:∀d:List Str,(∀g∈d,g∈C.ns)->(d.flatMap (kK C f)).length<=d.length*5:=by
    intro d
    induction d with
   |nil=>intro _;simp
   |cons a d ih=>
     intro h
     have h1:=ih λg hg=>h g (by simp [hg])
     have h2:=(Dq O f a (h a (by simp))).2
     rw [dB,aE,aZ,dD]
     exact Qi MT h1 h2
   refine AX .str gs (Eb Yh) (λy:Option PV=>[some (.ref 0 B.bk),some (.str x),some (.ref η.reg η.ju),y]) (λd J jt=>Ke η jt/\jt.get η.reg η.ju=some (.list (jM (pre++d.flatMap (kK C f))))/\jt.get r j=some (.list (jM gs))) _ rfl (λd y jt I=>I.2.2) ⟨K2,by simpa using h1,h2⟩ ?_ ?_
   ·intro d g t y jt hd I G1 q
    refine pU I λK3 h3 h4=>?_
    refine ⟨_,rfl,?_⟩
    refine jP (Ds g (by simp [hd])) λYi hg2=>?_
    have nV:d.length<gs.length:=by rw [hd];simp
    have qj:=fl d λa ha=>(Ds a (by simp [hd,ha])).1
    wtm_at "s";wtm_at "s";wtm_at "s";wtm_at "s"
    refine jY (qU h3 (by decide +kernel)) ?_
    wtm_at "W"
    refine (Yg O G H f g jt _ Yi hg2 (Qa hf) (b.ke K3) (by wtm_at "o")).ny λkJ K5 h5=>?_
    have n3:=AH.qi h3 K3.reg.symm
    have cl:=(Dq O f g Yi).2
    wtm_at "W"
    refine qQ (Gv (K5.get _ _ _ h3) h5 (by rw [K3.reg];exact Qj n3) (by rw [m6,m6,aE];exact ad6 MT Yh hpl nV qj cl)) ⟨rfl,?_⟩
    wtm_at "W"
    refine q _ _ ⟨(K3.trans K5).set rfl (ak _) _,?_,?_⟩
    ·rw [AH.lG (K5.get _ _ _ h3),<-tR,List.flatMap_append]
     simp
    ·rw [AH.ka mQ]
     exact K5.get _ _ _ h4
   ·exact λy jt I=>q jt y (.inr I.1) I.1 I.2.1
  have fl:∀d:List Str,(∀g∈d,g∈C.ns)->(d.flatMap (kK C f)).length<=d.length*5:=by
   intro d
   induction d with
  |nil=>intro _;simp
  |cons a d ih=>
    intro h
    have h1:=ih λg hg=>h g (by simp [hg])
    have h2:=(Dq O f a (h a (by simp))).2
    rw [dB,aE,aZ,dD]
    exact Qi MT h1 h2
  have Yj:∀g∈(C.front x).reverse,g∈C.ns/\C.rank g<f:=λg hg=>by
   have:=O.front x hx g (by simpa using hg)
   exact ⟨this.1,qY (by assumption) this.2⟩
  have pQ:∀g∈(C.mix x).reverse,g∈C.ns/\C.rank g<f:=λg hg=>by
   have:=O.mix x hx g (by simpa using hg)
   exact ⟨this.1,qY (by assumption) this.2⟩
  have lm:=O.AP x hx
  have n1:=K1.ju
  rw [AH.nU] at n1
  have MV:=fl _ λg hg=>(Yj g hg).1
  rw [fG] at MV
  refine loop (C.front x).reverse [] _ _ _ none .nil _ Yj (by simp;assumption) (by simp) (K01.add _) (AH.lz f0) (AH.jT _ _) (ad7 n1) (λjD y J K3 h3=>?_)
  wtm_at "W"
  refine jY (qU h3 (by decide +kernel)) ?_
  wtm_at "W"
  refine qQ (zl h3 (by rw [m6,aE];simp only [dz];exact ad8 lf MV)) ⟨rfl,?_⟩
  have e4:jM ([]++(C.front x).reverse.flatMap (kK C f))++[.str x]=jM ((C.front x).reverse.flatMap (kK C f)++[x]):=by rw [bN,tR];rfl
  rw [e4]
  have h4:=AH.lG (o':=.list (jM ((C.front x).reverse.flatMap (kK C f)++[x]))) h3
  have K4:=K3.set rfl (ak _) (.list (jM ((C.front x).reverse.flatMap (kK C f)++[x])))
  revert h4 K4
  generalize jD.set η.reg η.ju (.list (jM ((C.front x).reverse.flatMap (kK C f)++[x])))=jV
  intro h4 K4
  have b4:=b.ke K4
  have i4:=amC G b4
  wtm_at "W"
  refine Yc (x:=x) (L:=(jv qk x).getD []) b4 G.mix ?_ ?_
  ·intro Q' q
   wtm_at "W"
   refine amA (ad9 hK) |>.mono λv kJ ⟨K5,j5,d,e1,h5,T⟩=>?_
   subst e1
   refine jY (uH h5 (by decide +kernel)) ?_
   wtm_at "W"
   rcases T x with ⟨t1,t2⟩|⟨i,l,t1,t2,t3⟩
   ·refine oE (rE (AH.lz h5) (Dk t1)) ?_
    wtm_at "W"
    refine q _ _ _ (K5.add _) ?_
    rw [t2]
    exact AH.jT _ _
   ·refine oE (rE (AH.lz h5) (Dj t2)) ?_
    wtm_at "W"
    refine q _ _ _ (K5.add _) ?_
    rw [t1]
    exact AH.lz t3
  intro oF r j K6 Yk
  have em:(B.mix x).getD ((jv qk x).getD [])=C.mix x:=(H.mix x hx).symm
  rw [em] at Yk
  refine mC (Yd Yk (by rw [m6];exact Eb lm)) ?_
  rw [Ye]
  have n4:=AH.qi h4 K4.reg.symm
  have n6:=K6.ju
  refine loop (C.mix x).reverse _ _ _ _ y .nil _ pQ (by simp;assumption) (by rw [aE];simp only [jn];exact aea lf MV) ((K4.trans K6).add _) (AH.lz (K6.get _ _ _ h4)) (AH.jT _ _) (aeb n4 n6) (λmK y J K7 h7=>?_)
  wtm_at "W"
  exact jO ⟨rfl,K7,h7⟩
end
end
noncomputable abbrev pB:=Str×Str×Str
def wN:Option Str->List pB->Option (Str×Str)
|_,[]=>none
|sg,(s,g,o)::r=>if s=lN then wN (some (sg.getD g)) r else if s=nH then none else some (sg.getD g,o)
theorem A7(sg:Option Str)(s g o:Str)(r:List pB):wN sg ((s,g,o)::r)=if s=lN then wN (some (sg.getD g)) r else if s=nH then none else some (sg.getD g,o):=rfl
theorem MY(C:Cfg):∀(l:List Str) (sg:Option Str),oj C sg l=wN sg (l.filterMap C.has)
|[],_=>rfl
|n::r,sg=>by
  rw [MG,fy]
  induction h:C.has n using Option.casesOn with
 |none=>exact MY C r sg
 |some p=>
   obtain ⟨s,g,o⟩:=p
   dsimp only
   rw [A7,MY C r]
theorem amG(lF:List pB)(s g o:Str)(rest:List pB)(ha:∀a∈lF,a.1=lN)(hs:s≠lN)(sg:Str):wN (some sg) (lF++(s,g,o)::rest)=if s=nH then none else some (sg,o):=by
 induction lF with
|nil=>rw [bN,A7,if_neg hs];rfl
|cons a r ih=>
  obtain ⟨s',g',o'⟩:=a
  have:s'=lN:=ha (s',g',o') (by simp)
  subst this
  rw [bW,A7,if_pos rfl]
  exact ih λa h=>ha a (by simp [h])
theorem amH(lF:List pB)(s g o:Str)(rest:List pB)(ha:∀a∈lF,a.1=lN)(hs:s≠lN):wN none (lF++(s,g,o)::rest)=if s=nH then none else some (((lF.map λa=>a.2.1)++[g]).headD g,o):=by
 induction lF using List.casesOn with
|nil=>rw [bN,A7,if_neg hs];rfl
|cons a r=>
  obtain ⟨s',g',o'⟩:=a
  have:s'=lN:=ha (s',g',o') (by simp)
  subst this
  rw [bW,A7,if_pos rfl,amG r s g o rest (λa h=>ha a (by simp [h])) hs]
  rfl
theorem amJ(lF:List pB)(ha:∀a∈lF,a.1=lN):∀sg,wN sg lF=none:=by
 induction lF with
|nil=>intro _;rfl
|cons a r ih=>
  intro sg
  obtain ⟨s',g',o'⟩:=a
  have:s'=lN:=ha (s',g',o') (by simp)
  subst this
  rw [A7,if_pos rfl]
  exact ih (λa h=>ha a (by simp [h])) _
theorem Yl:∀(hits:List pB),(∀a∈hits,a.1=lN)\/∃lF s g o rest,hits=lF++(s,g,o)::rest/\(∀a∈lF,a.1=lN)/\s≠lN
|[]=>.inl λa h=>nomatch h
|(s,g,o)::r=>by
  by_cases hs:s=lN
  ·subst hs
   rcases Yl r with h|⟨lF,s,g',o',rest,rfl,h1,h2⟩
   ·refine .inl λa ha=>?_
    rcases aB.mp ha with rfl|ha
    ·rfl
    ·exact h a ha
   ·refine .inr ⟨_::lF,s,g',o',rest,rfl,λa ha=>?_,h2⟩
    rcases aB.mp ha with rfl|ha
    ·rfl
    ·exact h1 a ha
  ·exact .inr ⟨[],s,g,o,r,rfl,λa h=>(nomatch h),hs⟩
theorem MZ(a b:pB):oV (lP a) (lP b)=some (decide (a=b)):=by
 obtain ⟨a1,a2,a3⟩:=a
 obtain ⟨b1,b2,b3⟩:=b
 show some (sq a1 b1 && (sq a2 b2 && (sq a3 b3 && true)))=_
 congr 1
 rw [dZ,fH,aN,aN,kj,kj,kj,decide_eq_true_iff]
 simp only [Prod.mk.injEq]
theorem amK(v:pB)(l:List pB):∃t,sM (lP v) (l.map lP)=some t:=by
 induction l with
|nil=>exact ⟨false,rfl⟩
|cons a r ih=>exact ih.elim λt h=>⟨_,jQ (MZ a v) (uE h rfl)⟩
theorem amL(v:pB)(rest lF:List pB):∀(k:Nat),(∀a∈lF,a≠v)->yD (lP v) ((lF++v::rest).map lP) k=some (k+lF.length):=by
 induction lF with
|nil=>exact λk J=>(amK v rest).elim λt h=>jQ ((MZ v v).trans (congrArg some (decide_eq_true rfl))) (uE h rfl)
|cons a r ih=>exact λk hn=>jQ ((MZ a v).trans (congrArg some (decide_eq_false (hn a bL)))) ((ih (k+1) λx hx=>hn x (bu _ hx)).trans (congrArg some Pb))
theorem M8{r:Nat}(h:η.get r i=some (.list l))(hk:yD v l 0=some k)(hl:l.length<=65536):ua tab (.lst r i) Cq [v] η=some (.int k,η):=jQ (oi h) (cnf (by decide +kernel) (cnf (by decide +kernel) (cnf (by decide +kernel) (lA (by decide +kernel) (jQ (o:=one [v]) rfl (jQ hk (lA (mh hl) rfl)))))))
theorem amM{r:Nat}(h:η.get r i=some (.list l))(hk:k<65536)(hl:l.length<=65536):EF (.ref r i) (.int k) η=some (.ref η.reg η.ju,η.add (.list (l.take k))):=by
 refine jQ (pos_at BH (Ia hk)) ?_
 exact jQ (o:=oJ (.ref r i) η) (oi h) (lA (mh hl) rfl)
theorem Ym{α β:Type}{f g:α->Option β}:∀(l:List α),(∀x∈l,f x=g x)->l.filterMap f=l.filterMap g
|[],_=>rfl
|a::r,h=>by rw [fy,fy,h a (by simp),Ym r λx hx=>h x (by simp [hx])]
noncomputable def GH:Option (Str×Str)->PV
|none=>.none
|some (g,o)=>.tup [.str g,.str o]
section
theorem amN(G:tQ B)(b:BW B η)(x:Str):nh .In (.str x) (.ref 0 B.hs) η=some (B.has x).isSome:=by
 refine oH (G.has) λd u h h1=>?_
 show sN (.str x) (.ref 0 B.hs) η=_
 show (η.get 0 B.hs).bind _=_
 rw [b _ _ h]
 show some (jv d x).isSome=_
 rw [h1 x]
 cases B.has x<;>rfl
theorem amO(G:tQ B)(b:BW B η){x:Str}{p:pB}(hp:B.has x=some p):jR tab (.ref 0 B.hs) (.str x) η=some (lP p):=by
 refine oH (G.has) λd u h h1=>?_
 refine lV (b _ _ h) ?_
 rw [h1 x,hp]
 rfl
theorem amP(G:tQ B)(H:CB C B)(b:BW B η){l:List Str}(hl:∀x∈l,x∈C.ns)(hL:l.length<=1000){r:Nat}(hg:η.get r i=some (.list (jM l)))(hK:20<=K):
  jw K (.st (.ref 1162)) [.ref 0 B.bk,.ref r i] η λv jt=>v=GH (oj C none l)/\Ke η jt:=by
 have e0:oj C none l=wN none (l.filterMap B.has):=by
  rw [MY]
  congr 1
  exact Ym l λx hx=>H.has x (hl x hx)
 rw [e0]
 generalize hR:wN none (l.filterMap B.has)=R
 refine jw.le (k:=20) ?_ hK
 refine jw.wH 8 (as:=[.ref 0 B.bk,.ref r i]) 0 als (by wtm_at "o") rfl (by kernel_rfl) ?_;intro _ _
 unfold WZ
 wtm_at "s";wtm_at "s"
 refine su ?_
 wtm_at "W"
 refine ⟨_,tE hg,rfl,?_⟩
 rw [tF hg,m6]
 have qj:∀d:List Str,(d.filterMap B.has).length<=d.length:=λd=>iN _ _
 refine uG .str l (BP hL) (λu:Option PV=>[some (.ref 0 B.bk),some (.ref r i),none,none,none,none,u,none,none,none]) (λd J jt=>Ke η jt/\jt.get η.reg η.ju=some (.list ((d.filterMap B.has).map lP))) _ rfl (λd J jt h=>h.1.get _ _ _ hg) ⟨(Ke.refl η).add _,AH.jT _ _⟩ ?_ ?_
 ·intro d x t y jt hd I GG qG
  refine jP I λK1 h1=>?_
  refine ⟨_,rfl,?_⟩
  have b1:=b.ke K1
  have i1:=amD G b1
  have nV:d.length<l.length:=by rw [hd];simp
  have:=qj d
  wtm_at "W"
  refine jY (amN G b1 x) ?_
  induction hh:B.has x using Option.casesOn with
 |none=>
   refine ⟨false,rfl,λh=>(nomatch h),λJ=>⟨λh=>(nomatch h),λJ=>qG _ _ ⟨K1,?_⟩⟩⟩
   rw [h1,jo]
   simp [hh]
 |some p=>
   refine ⟨true,rfl,λJ=>?_,λh=>nomatch h⟩
   wtm_at "s"
   refine ⟨λJ=>?_,λh=>nomatch h⟩
   have i2:=amO G b1 hh
   wtm_at "W"
   refine ⟨_,?_,qG _ _ ⟨K1.set rfl (ak _) _,AH.lG h1⟩⟩
   refine (sy h1).trans ?_
   rw [mh (by rw [aC];exact Qm hL nV this),cond_true,jo]
   simp [hh]
 intro y jB I
 refine jP I λK1 h1=>?_
 generalize amQ:l.filterMap B.has=hits at h1 hR ⊢
 have hlen:hits.length<=1000:=by rw [<-amQ];have:=qj l;exact aeq hL this
 wtm_at "W"
 refine su ?_
 wtm_at "W"
 refine ⟨_,tE h1,rfl,?_⟩
 rw [tF h1,aC]
 have r1:=K1.reg
 refine uG lP hits (BP hlen) (λu:Option PV=>[some (.ref 0 B.bk),some (.ref r i),some (.ref η.reg η.ju),none,none,none,u,none,none,none]) (λd J jt=>Ke jB jt/\jt.get jB.reg jB.ju=some (.list ((d.filter λp=>decide (p.1≠lN)).map lP))) _ rfl (λd J jt h=>h.1.get _ _ _ h1) ⟨(Ke.refl _).add _,AH.jT _ _⟩ ?_ ?_
 ·intro d xx t y jt hd I GG qG
  obtain ⟨s,g,o⟩:=xx
  refine jP I λK2 h2=>?_
  refine ⟨_,rfl,?_⟩
  have nV:d.length<hits.length:=by rw [hd];simp
  have qj:=bV (λp:pB=>decide (p.1≠lN)) d
  have i1:jR tab (lP (s,g,o)) (.int 0) jt=some (.str s):=rfl
  wtm_at "W"
  by_cases hs:s=lN
  ·subst hs
   refine ⟨false,rfl,λh=>(nomatch h),λJ=>⟨λh=>(nomatch h),λJ=>qG _ _ ⟨K2,?_⟩⟩⟩
   rw [h2,b8]
   simp
  ·have hq:sq s lN=false:=by
    induction h:sq s lN using Bool.casesOn with
   |false=>rfl
   |true=>exact absurd (kj.mp h) hs
   refine ⟨true,by show some (!sq s lN)=_;rw [hq];rfl,λJ=>?_,λh=>nomatch h⟩
   wtm_at "s"
   refine ⟨λJ=>?_,λh=>nomatch h⟩
   wtm_at "W"
   refine ⟨_,?_,qG _ _ ⟨K2.set rfl (ak _) _,AH.lG h2⟩⟩
   refine (sy h2).trans ?_
   rw [mh (ah (aL (ah (aq (aC _)) (bV _ _))) (aer hlen nV)),cond_true,b8]
   simp [hs]
 intro y jA I
 refine jP I λK2 h2=>?_
 have M9:=K2.get _ _ _ h1
 have r2:=K2.reg
 have n2:=AH.qi h2 r2.symm
 wtm_at "W"
 refine jY (eq_nil (AH.lz h2) (AH.jT _ _) (by rw [r2];exact Qj n2)) ?_
 have vq:=(K1.trans K2).add (.list [])
 rcases Yl hits with Yn|⟨lF,s,g,o,rest,rfl,ha,hs⟩
 ·have e1:(hits.filter λp=>decide (p.1≠lN))=[]:=by
   rw [gy]
   intro a h
   simp [Yn a h]
  rw [amJ hits Yn] at hR
  rw [e1]
  wtm_at "W"
  exact jO ⟨congrArg GH hR,vq⟩
 ·have e1:((lF++(s,g,o)::rest).filter λp=>decide (p.1≠lN))=(s,g,o)::(rest.filter λp=>decide (p.1≠lN)):=by
   rw [b8,gy.mpr (λa h=>by simp [ha a h]),bN,List.filter_cons_of_pos (by simp [hs])]
  rw [e1] at h2
  rw [amH lF s g o rest ha hs] at hR
  rw [e1,decide_eq_false (by simp)]
  have wD:=AH.lz (o:=.list []) h2
  have i3:jR tab (.ref jB.reg jB.ju) (.int 0) (jA.add (.list []))=some (lP (s,g,o)):=vA wD (dc rfl) (dc rfl) rfl
  have i4:jR tab (lP (s,g,o)) (.int 0) (jA.add (.list []))=some (.str s):=rfl
  have i5:jR tab (lP (s,g,o)) (.int 1) (jA.add (.list []))=some (.str g):=rfl
  have i6:jR tab (lP (s,g,o)) (.int 2) (jA.add (.list []))=some (.str o):=rfl
  wtm_at "W"
  by_cases hz:s=nH
  ·subst hz
   refine Ml (by kernel_rfl) ?_
   rw [if_pos rfl] at hR
   wtm_at "W"
   exact jO ⟨congrArg GH hR,vq⟩
  ·have hq:sq s nH=false:=by
    induction h:sq s nH using Bool.casesOn with
   |false=>rfl
   |true=>exact absurd (kj.mp h) hz
   refine Gh (by show some (sq s nH)=_;rw [hq]) ?_
   rw [if_neg hz] at hR
   have s9:=AH.lz (o:=.list []) M9
   have r3:(jA.add (.list [])).reg=η.reg:=by rw [AH.oh,r2,r1]
   revert vq s9 wD i3 i4 i5 i6 r3
   generalize jA.add (.list [])=jD
   intro K3 wD i3 i4 i5 i6 s9 r3
   rw [aE,aZ] at hlen
   wtm_at "W"
   refine su ?_
   wtm_at "W"
   refine jY (qU s9 (by decide +kernel)) ?_
   wtm_at "W"
   have mQ:∀a∈lF,a≠(s,g,o):=λa h e=>hs (by rw [<-ha a h,e])
   have ix:=amL (s,g,o) rest lF 0 mQ
   rw [cU] at ix
   refine qQ (M8 s9 ix (by rw [aC,aE,aZ];exact Qn hlen)) ?_
   refine mC (amM s9 (aes hlen) (by rw [aC,aE,aZ];exact Qn hlen)) ?_
   have etk:((lF++(s,g,o)::rest).map lP).take lF.length=lF.map lP:=by rw [<-List.map_take,List.take_left]
   rw [etk]
   have h4:=AH.jT jD (.list (lF.map lP))
   refine ⟨_,tE h4,rfl,?_⟩
   rw [tF h4,aC]
   have K4:=K3.add (.list (lF.map lP))
   have r4:(jD.add (.list (lF.map lP))).reg=η.reg:=K4.reg
   have Nb:=AH.lz (o:=.list (lF.map lP)) wD
   revert h4 K4 r4 Nb
   generalize jD.add (.list (lF.map lP))=jV
   intro h4 K4 r4 Nb
   refine uG lP lF (aet hlen) (λu:Option PV=>[some (.ref 0 B.bk),some (.ref r i),some (.ref η.reg η.ju),some (.ref jB.reg jB.ju),none,none,u,none,none,none]) (λd J jt=>Ke jV jt/\jt.get jV.reg jV.ju=some (.list (jM (d.map λp=>p.2.1)))) _ rfl (λd J jt h=>h.1.get _ _ _ h4) ⟨(Ke.refl _).add _,AH.jT _ _⟩ ?_ ?_
   ·intro d xx t y jt hd I GG qG
    obtain ⟨s',g',o'⟩:=xx
    refine jP I λK5 h5=>?_
    refine ⟨_,rfl,?_⟩
    have nV:d.length<lF.length:=by rw [hd];simp
    have i7:jR tab (lP (s',g',o')) (.int 1) jt=some (.str g'):=rfl
    wtm_at "s"
    refine ⟨λJ=>?_,λh=>nomatch h⟩
    wtm_at "W"
    refine ⟨_,?_,qG _ _ ⟨K5.set rfl (ak _) _,AH.lG h5⟩⟩
    refine (sy h5).trans ?_
    rw [mh (by rw [m6,aC];exact aeu hlen nV),cond_true,aV,tR]
    rfl
   ·intro y kJ I
    refine jP I λK5 h5=>?_
    have Yo:=K5.get _ _ _ Nb
    have i8:jR tab (.ref jB.reg jB.ju) (.int 0) kJ=some (lP (s,g,o)):=vA Yo (dc rfl) (dc rfl) rfl
    have i9:jR tab (lP (s,g,o)) (.int 1) kJ=some (.str g):=rfl
    wtm_at "W"
    refine mC (add_lists (AH.lz h5) (AH.jT _ _) (by rw [m6,aC];simp only [aZ,dz];exact aev hlen)) ?_
    have e6:jM (lF.map λp=>p.2.1)++[.str g]=jM ((lF.map λp=>p.2.1)++[g]):=by rw [tR];rfl
    rw [e6]
    have K6:=(((K4.trans K5).add (.list [.str g])).add (.list (jM ((lF.map λp=>p.2.1)++[g]))))
    have h6:=AH.jT (kJ.add (.list [.str g])) (.list (jM ((lF.map λp=>p.2.1)++[g])))
    have h7:=AH.lz (o:=.list (jM ((lF.map λp=>p.2.1)++[g]))) (AH.lz (o:=.list [.str g]) Yo)
    revert K6 h6 h7
    generalize (kJ.add (.list [.str g])).add (.list (jM ((lF.map λp=>p.2.1)++[g])))=oF
    intro K6 h6 h7
    have i10:jR tab (.ref jB.reg jB.ju) (.int 0) oF=some (lP (s,g,o)):=vA h7 (dc rfl) (dc rfl) rfl
    have i11:jR tab (lP (s,g,o)) (.int 2) oF=some (.str o):=rfl
    have i12:jR tab (.ref (kJ.add (.list [.str g])).reg (kJ.add (.list [.str g])).ju) (.int 0) oF=some (.str (((lF.map λp=>p.2.1)++[g]).headD g)):=by
     refine vA h6 (dc rfl) (dc rfl) ?_
     cases lF<;>rfl
    wtm_at "W"
    exact jO ⟨congrArg GH hR,K6⟩
end
noncomputable abbrev Spot:=Nat×Nat×Bool
noncomputable def yd(x:Spot):PV:=.tup [.int x.1,.int x.2.1,.bool x.2.2]
def nZ(f:Str->Spot)(g:Str):PV:=.tup [yd (f g),.str g]
def GJ(f:Str->Spot)(a b:Str):Prop:=(f a).1<(f b).1\/((f a).1=(f b).1/\(f a).2.1<(f b).2.1)
theorem GK(f:Str->Spot)(g:Str):keyOf (nZ f g)=some (((f g).1:Int),((f g).2.1:Int)):=rfl
theorem Yp(f:Str->Spot)(g:Str)(B:List Str)(hB:∀b∈B,GJ f g b):∀(A:List Str),(∀a∈A,GJ f a g)->B9 (nZ f g) ((A++B).map (nZ f))=some ((A++g::B).map (nZ f))
|[],_=>by
  induction B using List.casesOn with
 |nil=>rfl
 |cons b r=>
   have h:=hB b (by simp)
   refine jQ (GK f g) (jQ (GK f b) (lA ?_ rfl))
   dsimp only
   rcases h with h|⟨h1,h2⟩
   ·rw [decide_eq_true (O5 h)];rfl
   ·rw [decide_eq_true (show ((f g).1:Int)=(f b).1 by exact OZ h1),decide_eq_true (show ((f g).2.1:Int)<(f b).2.1 by exact O5 h2)];simp
|a::A,hA=>by
  have h:=hA a (by simp)
  refine jQ (GK f g) (jQ (GK f a) (cnf ?_ (cnf ?_ (uE (Yp f g B hB A λx hx=>hA x (by simp [hx])) rfl))))
  all_goals dsimp only
  ·rcases h with h|⟨h1,h2⟩
   ·rw [decide_eq_false (O6 h),decide_eq_false (show ¬ ((f g).1:Int)=(f a).1 by exact Ie h)];rfl
   ·rw [decide_eq_false (aaE h1),decide_eq_false (show ¬ ((f g).2.1:Int)<(f a).2.1 by exact O6 h2)];simp
  ·rcases h with h|⟨h1,h2⟩
   ·rw [decide_eq_false (show ¬ ((f g).1:Int)=(f a).1 by exact Ie h)];rfl
   ·rw [decide_eq_false (show ¬ ((f g).2.1:Int)=(f a).2.1 by exact Ie h2)];simp
theorem Yq(f:Str->Spot):∀(ks L:List Str),ks.Nodup->L.Nodup->(∀g,g∈L↔g∈ks)->L.Pairwise (GJ f)->xA (ks.map (nZ f))=some (L.map (nZ f))
|[],L,_,_,h,_=>by
  have:L=[]:=gQ.mpr λg hg=>by have:=(h g).mp hg;simp at this
  subst this
  rfl
|k::ks,L,hn,hL,h,hp=>by
  obtain ⟨A,B,rfl⟩:=gU ((h k).mpr (by simp))
  rw [bw] at hn
  rw [fJ,c5] at hp
  rw [cA,bw] at hL
  obtain ⟨n1,⟨n2,n3⟩,n4⟩:=hL
  obtain ⟨p1,⟨p2,p3⟩,p4⟩:=hp
  have ih:=Yq f ks (A++B) hn.2 (by
   rw [cA]
   exact ⟨n1,n3,λa ha b hb=>n4 a ha b (by simp [hb])⟩) (λg=>by
   have:=h g
   simp only [aH,aB] at this ⊢
   constructor
   ·intro hg
    have h2:=this.mp (by rcases hg with hg|hg;exact .inl hg;exact .inr (.inr hg))
    rcases h2 with rfl|h2
    ·rcases hg with hg|hg
     ·exact absurd rfl (n4 g hg g (by simp))
     ·exact absurd hg n2
    ·exact h2
   ·intro hg
    have h2:=this.mpr (.inr hg)
    rcases h2 with h2|rfl|h2
    ·exact .inl h2
    ·exact absurd hg hn.1
    ·exact .inr h2) (by
   rw [fJ]
   exact ⟨p1,p3,λa ha b hb=>p4 a ha b (by simp [hb])⟩)
  show (xA (ks.map (nZ f))).bind (B9 (nZ f k))=_
  rw [ih]
  exact Yp f k B (λb hb=>p2 b hb) A λa ha=>p4 a ha k (by simp)
abbrev Sp:=Str->Option Spot
noncomputable def GL:Option Spot->Bool
|some (_,_,b)=>b
|none=>false
def qB(i:Nat)(c:Str)(R d:List Str)(sp:Sp):Sp:=λg=>if g∈d/\GL (sp g)=false then some (i,R.idxOf g,decide (R.idxOf g<R.idxOf c)) else sp g
def A8(C:Cfg):Nat->Nat->Option Str->Sp->Sp
|0,_,_,sp=>sp
|_+1,_,none,sp=>sp
|f+1,i,some c,sp=>A8 C f (i+1) (C.jJ c) (qB i c (kK C 3 c) (kK C 3 c) sp)
def ol(C:Cfg):Nat->Nat->Option Str->Sp
|0,_,_=>λJ=>none
|_+1,_,none=>λJ=>none
|f+1,i,some c=>λg=>let R:=kK C 3 c
  if g∈R then if R.idxOf g<R.idxOf c then some (i,R.idxOf g,true) else match ol C f (i+1) (C.jJ c) g with
  |some s=>some s
  |none=>some (i,R.idxOf g,false)
  else ol C f (i+1) (C.jJ c) g
theorem A9(C:Cfg)(f i:Nat)(c g:Str):ol C (f+1) i (some c) g=if g∈kK C 3 c then if (kK C 3 c).idxOf g<(kK C 3 c).idxOf c then some (i,(kK C 3 c).idxOf g,true) else match ol C f (i+1) (C.jJ c) g with
  |some s=>some s
  |none=>some (i,(kK C 3 c).idxOf g,false)
  else ol C f (i+1) (C.jJ c) g:=rfl
theorem Yr(C:Cfg):∀(f i:Nat) (o:Option Str) (sp:Sp) (g:Str),A8 C f i o sp g=match sp g with
 |some (l,a,true)=>some (l,a,true)
 |s=>match ol C f i o g with
  |some s'=>some s'
  |none=>s
|0,i,o,sp,g=>by
  unfold A8 ol
  induction h:sp g using Option.casesOn with
 |none=>rfl
 |some x=>obtain ⟨a,b,c⟩:=x;cases c<;>rfl
|f+1,i,none,sp,g=>by
  unfold A8 ol
  induction h:sp g using Option.casesOn with
 |none=>rfl
 |some x=>obtain ⟨a,b,c⟩:=x;cases c<;>rfl
|f+1,i,some c,sp,g=>by
  unfold A8
  rw [Yr C f (i+1) (C.jJ c)]
  rw [A9]
  unfold qB
  by_cases hg:g∈kK C 3 c
  ·by_cases hl:(kK C 3 c).idxOf g<(kK C 3 c).idxOf c
   ·rw [if_pos hg,if_pos hl,decide_eq_true hl]
    induction h:sp g using Option.casesOn with
   |none=>rw [if_pos ⟨hg,rfl⟩]
   |some x=>
     obtain ⟨a,b,t⟩:=x
     induction t using Bool.casesOn with
    |true=>rw [if_neg (λh=>nomatch h.2)]
    |false=>rw [if_pos ⟨hg,rfl⟩]
   ·rw [if_pos hg,if_neg hl,decide_eq_false hl]
    induction h:sp g using Option.casesOn with
   |none=>
     rw [if_pos ⟨hg,rfl⟩]
     cases ol C f (i+1) (C.jJ c) g<;>rfl
   |some x=>
     obtain ⟨a,b,t⟩:=x
     induction t using Bool.casesOn with
    |true=>rw [if_neg (λh=>nomatch h.2)]
    |false=>
      rw [if_pos ⟨hg,rfl⟩]
      cases ol C f (i+1) (C.jJ c) g<;>rfl
  ·rw [if_neg (λh=>hg h.1),if_neg hg]
section
noncomputable def mE:List Str->List Str->List Str
|_,[]=>[]
|k,x::r=>if x∈k then mE k r else x::mE (k++[x]) r
theorem Ys(k:List Str)(x:Str)(r:List Str):mE k (x::r)=if x∈k then mE k r else x::mE (k++[x]) r:=rfl
theorem sG:∀(R k:List Str) (g:Str),g∈mE k R↔g∈R/\g∉k
|[],k,g=>by simp [mE]
|x::r,k,g=>by
  unfold mE
  by_cases h:x∈k
  ·rw [if_pos h,sG r]
   constructor
   ·exact λ⟨a,b⟩=>⟨by simp [a],b⟩
   ·rintro ⟨a,b⟩
    refine ⟨?_,b⟩
    rcases aB.mp a with rfl|a
    ·exact absurd h b
    ·exact a
  ·rw [if_neg h,aB,sG r]
   simp only [aH,aJ,aB,not_or,aU,or_false]
   constructor
   ·rintro (rfl|⟨a,b,c⟩)
    ·exact ⟨.inl rfl,h⟩
    ·exact ⟨.inr a,b⟩
   ·rintro ⟨rfl|a,b⟩
    ·exact .inl rfl
    ·by_cases e:g=x
     ·exact .inl e
     ·exact .inr ⟨a,b,by simpa using e⟩
theorem Nc:∀(R k:List Str),(mE k R).Nodup
|[],k=>by simp [mE]
|x::r,k=>by
  unfold mE
  split
  ·exact Nc r k
  ·rw [bw]
   refine ⟨λh=>?_,Nc r _⟩
   have:=((sG r (k++[x]) x).mp h).2
   simp at this
theorem ye(x g:Str)(r:List Str)(h:g≠x):(x::r).idxOf g=r.idxOf g+1:=by
 rw [gW]
 have:(x == g)=false:=by simpa using cX h
 rw [this]
 rfl
theorem Nf:∀(R k:List Str),(mE k R).Pairwise λa b=>R.idxOf a<R.idxOf b
|[],k=>by simp [mE]
|x::r,k=>by
  unfold mE
  by_cases h:x∈k
  ·rw [if_pos h]
   refine (Nf r k).imp_of_mem λ{a b} ha hb vC=>?_
   have h1:a≠x:=λe=>((sG r k a).mp ha).2 (e▸h)
   have h2:b≠x:=λe=>((sG r k b).mp hb).2 (e▸h)
   rw [ye x a r h1,ye x b r h2]
   exact H9 vC
  ·rw [if_neg h,c5]
   have hn:∀y∈mE (k++[x]) r,y≠x:=λy hy e=>((sG r _ y).mp hy).2 (by simp [e])
   refine ⟨λy hy=>?_,(Nf r (k++[x])).imp_of_mem λ{a b} ha hb vC=>?_⟩
   ·rw [ye x y r (hn y hy),gW]
    simp
   ·rw [ye x a r (hn a ha),ye x b r (hn b hb)]
    exact H9 vC
theorem Dt:∀(a b k:List Str),mE k (a++b)=mE k a++mE (k++mE k a) b
|[],b,k=>by simp [mE]
|x::r,b,k=>by
  rw [bW,Ys,Ys]
  by_cases h:x∈k
  ·rw [if_pos h,if_pos h,Dt r b k]
  ·rw [if_neg h,if_neg h,bW,Dt r b]
   simp [bQ]
theorem amR(R k:List Str)(h:∀g∈R,g∈k):mE k R=[]:=
 gQ.mpr λg hg=>((sG R k g).mp hg).2 (h g ((sG R k g).mp hg).1)
section
variable(O:lS C)
include O
theorem Ng:∀(f:Nat) (g:Str),g∈C.ns->∀y∈kK C f g,C.rank y<=C.rank g
|0,_,_,y,h=>nomatch h
|f+1,g,hg,y,h=>by
  unfold kK at h
  rcases aH.mp h with h|h
  ·rcases aH.mp h with h|h
   ·refine jZ (eG.mp h) λa h1 h2=>?_
    have h3:=O.front g hg a (by simpa using h1)
    exact ah (Ng f a h3.1 y h2) (aD h3.2)
   ·rw [aJ.mp h]
    exact ak _
  ·refine jZ (eG.mp h) λa h1 h2=>?_
   have h3:=O.mix g hg a (by simpa using h1)
   exact ah (Ng f a h3.1 y h2) (aD h3.2)
theorem Nh{α β:Type}{f g:α->List β}:∀(l:List α),(∀x∈l,f x=g x)->l.flatMap f=l.flatMap g
|[],_=>rfl
|a::r,h=>by rw [dB,dB,h a (by simp),Nh r λx hx=>h x (by simp [hx])]
theorem GN:∀(f f':Nat) (g:Str),g∈C.ns->C.rank g<f->C.rank g<f'->kK C f g=kK C f' g
|0,_,g,_,h,_=>absurd h (uQ)
|_,0,g,_,_,h=>absurd h (uQ)
|f+1,f'+1,g,hg,h,h'=>by
  unfold kK
  congr 1
  ·congr 1
   refine Nh O _ λx hx=>?_
   have:=O.front g hg x (by simpa using hx)
   exact GN f f' x this.1 (qY (by assumption) this.2) (qY (by assumption) this.2)
  ·refine Nh O _ λx hx=>?_
   have:=O.mix g hg x (by simpa using hx)
   exact GN f f' x this.1 (qY (by assumption) this.2) (qY (by assumption) this.2)
def GO(C:Cfg)(found:List Str)(x:Str):Prop:=∀y∈kK C 3 x,y∈found
theorem Yt:∀(f:Nat) (g:Str) (found known:List Str) (r:Nat),f<=3->g∈C.ns->C.rank g<f->C.rank g<r->(∀x∈found,x∈known)->(∀x∈known,C.rank x<r->GO C found x)->
  (C.visit f (found,known) g).1=found++mE found (kK C f g)/\(∀x∈known,x∈(C.visit f (found,known) g).2)/\(∀x∈(C.visit f (found,known) g).1,x∈(C.visit f (found,known) g).2)/\(∀x∈(C.visit f (found,known) g).2,x∈known\/GO C (C.visit f (found,known) g).1 x)
|0,g,_,_,_,_,_,h,_,_,_=>absurd h (uQ)
|f+1,g,found,known,r,Ni,hg,hf,hr,I1,I2=>by
  have fold:∀(gs:List Str) (found known:List Str) (r:Nat),(∀h∈gs,h∈C.ns/\C.rank h<f/\C.rank h<r)->(∀x∈found,x∈known)->(∀x∈known,C.rank x<r->GO C found x)->
    (gs.foldl (C.visit f) (found,known)).1=found++mE found (gs.flatMap (kK C f))/\(∀x∈known,x∈(gs.foldl (C.visit f) (found,known)).2)/\(∀x∈(gs.foldl (C.visit f) (found,known)).1,x∈(gs.foldl (C.visit f) (found,known)).2)/\(∀x∈(gs.foldl (C.visit f) (found,known)).2,x∈known\/GO C (gs.foldl (C.visit f) (found,known)).1 x):=by
   intro gs
   induction gs with
  |nil=>intro found known r _ I1 I2;exact ⟨by simp [mE],λx h=>h,I1,λx h=>.inl h⟩
  |cons h gs ih=>
    intro found known r Ds I1 I2
    refine pU (Ds h (by simp)) λh1 h2 h3=>?_
    refine zL (Yt f h found known r (Qa Ni) h1 h2 h3 I1 I2) λv1 v2 v3 v4=>?_
    obtain ⟨w1,w2,w3,w4⟩:=ih (C.visit f (found,known) h).1 (C.visit f (found,known) h).2 r (λx hx=>Ds x (by simp [hx])) v3 (λx hx hr=>by
     rcases v4 x hx with h|h
     ·intro y hy
      rw [v1]
      exact bD _ (I2 x h hr y hy)
     ·exact h)
    refine ⟨?_,λx hx=>w2 x (v2 x hx),w3,λx hx=>?_⟩
    ·show (gs.foldl (C.visit f) ((C.visit f (found,known) h).1,(C.visit f (found,known) h).2)).1=_
     rw [w1,v1,dB,Dt,bQ]
    ·rcases w4 x hx with h|h
     ·rcases v4 x h with h|h
      ·exact .inl h
      ·refine .inr λy hy=>?_
       show y∈(gs.foldl (C.visit f) ((C.visit f (found,known) _).1,(C.visit f (found,known) _).2)).1
       rw [w1]
       exact bD _ (h y hy)
     ·exact .inr h
  by_cases hk:g∈known
  ·have e:C.visit (f+1) (found,known) g=(found,known):=by
    show Cfg.visit C (f+1) (found,known) g=_
    rw [Cfg.visit,if_pos hk]
   rw [e]
   refine ⟨?_,λx h=>h,I1,λx h=>.inl h⟩
   rw [amR _ _ λy hy=>I2 g hk hr y (by rw [GN O 3 (f+1) g hg (Qc Ni hf) hf];exact hy),bU]
  ·have e:C.visit (f+1) (found,known) g=(C.mix g).reverse.foldl (C.visit f) (((C.front g).reverse.foldl (C.visit f) (found,known++[g])).1++[g],((C.front g).reverse.foldl (C.visit f) (found,known++[g])).2):=by
    show Cfg.visit C (f+1) (found,known) g=_
    rw [Cfg.visit,if_neg hk]
   rw [e]
   clear e
   obtain ⟨a1,a2,a3,a4⟩:=fold (C.front g).reverse found (known++[g]) (C.rank g) (λh hh=>by
    have:=O.front g hg h (by simpa using hh)
    exact ⟨this.1,qY (by assumption) this.2,this.2⟩) (λx hx=>bD _ (I1 x hx)) (λx hx qT=>by
    rcases aH.mp hx with hx|hx
    ·exact I2 x hx (Eg hr qT)
    ·rw [aJ.mp hx] at qT;exact absurd qT (aM _))
   have hgA:g∉(C.front g).reverse.flatMap (kK C f):=λh=>by
    refine jZ (eG.mp h) λa h1 h2=>?_
    have h3:=O.front g hg a (by simpa using h1)
    exact cD h3.2 (Ng O f a h3.1 g h2)
   have hgf:g∉found:=λh=>hk (I1 g h)
   obtain ⟨b1,b2,b3,b4⟩:=fold (C.mix g).reverse (((C.front g).reverse.foldl (C.visit f) (found,known++[g])).1++[g]) ((C.front g).reverse.foldl (C.visit f) (found,known++[g])).2 (C.rank g) (λh hh=>by
    have:=O.mix g hg h (by simpa using hh)
    exact ⟨this.1,qY (by assumption) this.2,this.2⟩) (λx hx=>by
    rcases aH.mp hx with hx|hx
    ·exact a3 x hx
    ·rw [aJ.mp hx];exact a2 g (by simp)) (λx hx qT=>by
    rcases a4 x hx with h|h
    ·rcases aH.mp h with h|h
     ·intro y hy
      rw [a1]
      exact bD _ (bD _ (I2 x h (Eg hr qT) y hy))
     ·rw [aJ.mp h] at qT;exact absurd qT (aM _)
    ·exact λy hy=>bD _ (h y hy))
   have e1:mE found (kK C (f+1) g)=mE found ((C.front g).reverse.flatMap (kK C f))++[g]++mE (found++mE found ((C.front g).reverse.flatMap (kK C f))++[g]) ((C.mix g).reverse.flatMap (kK C f)):=by
    unfold kK
    rw [Dt,Dt]
    have:mE (found++mE found ((C.front g).reverse.flatMap (kK C f))) [g]=[g]:=by
     unfold mE
     rw [if_neg]
     ·rfl
     ·intro h
      rcases aH.mp h with h|h
      ·exact hgf h
      ·exact hgA ((sG _ _ _).mp h).1
    rw [this,bQ found]
   have e2:=b1
   rw [a1] at e2
   rw [a1] at b2 b3 b4
   have mem:∀y,y∈found++mE found (kK C (f+1) g)↔y∈found\/y∈kK C (f+1) g:=λy=>by
    rw [aH,sG]
    by_cases h:y∈found<;>simp [h]
   refine ⟨?_,λx hx=>?_,?_,λx hx=>?_⟩
   ·rw [a1,e2,e1]
    simp [bQ]
   ·rw [a1];exact b2 x (a2 x (by simp [hx]))
   ·rw [a1];exact b3
   ·rw [a1] at hx ⊢
    have CT:((C.mix g).reverse.foldl (C.visit f) (found++mE found ((C.front g).reverse.flatMap (kK C f))++[g],((C.front g).reverse.foldl (C.visit f) (found,known++[g])).2)).1=found++mE found (kK C (f+1) g):=by
     rw [e2,e1]
     simp [bQ]
    rcases b4 x hx with h|h
    ·rcases a4 x h with h|h
     ·rcases aH.mp h with h|h
      ·exact .inl h
      ·refine .inr λy hy=>?_
       rw [aJ.mp h,GN O 3 (f+1) g hg (Qc Ni hf) hf] at hy
       rw [CT,mem]
       exact .inr hy
     ·refine .inr λy hy=>?_
      have:=h y hy
      rw [a1] at this
      rw [e2]
      exact bD _ (bD _ this)
    ·exact .inr h
theorem Nj(hn:n∈C.ns):C.nE n=mE [] (kK C 3 n):=by
 have h:=O.rank n hn
 have:=(Yt O 3 n [] [] 3 (ak _) hn (D9 h) (D9 h) (λx h=>nomatch h) (λx h=>nomatch h)).1
 exact this
end
end
section
def sLt(a b:Spot):Prop:=a.1<b.1\/(a.1=b.1/\a.2.1<b.2.1)
theorem Yu(n:Str)(b:List Str):∀(l:List Str),Cfg.pn n b false l=l.filter λg=>decide (g∉b)
|[]=>rfl
|x::r=>by
  rw [A0,List.filter_cons]
  simp only [Bool.false_and,gD,false_or]
  rw [Yu n b r]
  by_cases h:x∈b
  ·simp [h]
  ·simp [h]
theorem Yv(n:Str)(b T:List Str):∀(A:List Str),n∉A->Cfg.pn n b true (A++n::T)=A++(n::T).filter λg=>decide (g∉b)
|[],_=>by
  rw [bN,bN,A0,List.filter_cons]
  simp only [decide_true,Bool.not_true,Bool.and_false,gD,false_or]
  rw [Yu]
  by_cases h:n∈b
  ·simp [h]
  ·simp [h]
|x::A,h=>by
  simp only [aB,not_or] at h
  rw [bW,A0]
  have:decide (x=n)=false:=decide_eq_false λe=>h.1 e.symm
  rw [this]
  simp only [Bool.not_false,dZ,true_or,if_true]
  rw [Yv n b T A h.2]
  rfl
section
variable(O:lS C)
include O
def GP(C:Cfg)(g:Str):Prop:=∃x∈C.ns,g∈C.front x\/g∈C.mix x
theorem Nk:∀(f:Nat) (x:Str),x∈C.ns->∀y∈kK C f x,y=x\/GP C y
|0,_,_,y,h=>nomatch h
|f+1,x,hx,y,h=>by
  unfold kK at h
  rcases aH.mp h with h|h
  ·rcases aH.mp h with h|h
   ·refine jZ (eG.mp h) λa h1 h2=>?_
    have h3:a∈C.front x:=by simpa using h1
    rcases Nk f a (O.front x hx a h3).1 y h2 with rfl|h4
    ·exact .inr ⟨x,hx,.inl h3⟩
    ·exact .inr h4
   ·exact .inl (aJ.mp h)
  ·refine jZ (eG.mp h) λa h1 h2=>?_
   have h3:a∈C.mix x:=by simpa using h1
   rcases Nk f a (O.mix x hx a h3).1 y h2 with rfl|h4
   ·exact .inr ⟨x,hx,.inr h3⟩
   ·exact .inr h4
theorem GQ{x:Str}:x∈kK C 3 x:=by
 unfold kK
 simp
theorem amS(d:Nat):∀(n:Str),n∈C.ns->C.depth n<=d->∀g∈C.line n,C.depth g<=C.depth n\/GP C g:=by
  induction d using Nat.strongRecOn with|ind d ih=>?_
  intro n hn hd g hg
  rw [O.line n hn] at hg
  have own:g∈C.nE n->C.depth g<=C.depth n\/GP C g:=λh=>by
   rw [Nj O hn,sG] at h
   rcases Nk O 3 n hn g h.1 with rfl|h
   ·exact .inl (ak _)
   ·exact .inr h
  have Yw:g∈(match C.jJ n with|none=>[]|some p=>C.line p)->C.depth g<=C.depth n\/GP C g:=λh=>by
   induction hp:C.jJ n using Option.casesOn with
  |none=>rw [hp] at h;cases h
  |some p=>
    rw [hp] at h
    have h1:=O.jJ n hn p hp
    obtain ⟨d,rfl⟩:∃k,d=k+1:=⟨d - 1,(cS (aA (cG h1.2) (by assumption))).symm⟩
    rcases ih d (bG d) p h1.1 (aO (aA h1.2 (by assumption))) g h with h|h
    ·exact .inl (ah h (aD h1.2))
    ·exact .inr h
  unfold Cfg.pA at hg
  split at hg
  ·rcases aB.mp hg with rfl|h
   ·exact .inl (ak _)
   ·exact Yw h
  ·dsimp only at hg
   rcases aH.mp hg with h|h
   ·exact own (Df _ _ _ _ _ h)
   ·exact Yw (cC.mp h).1
theorem Yx{c:Str}(hc:c∈C.ns):c∉C.qz (C.jJ c):=by
 intro h
 induction hp:C.jJ c using Option.casesOn with
|none=>rw [hp] at h;cases h
|some p=>
  rw [hp] at h
  have h1:=O.jJ c hc p hp
  rcases amS O 9 p h1.1 (by have:=O.deep p h1.1;exact yv this) c h with h|⟨x,hx,h⟩
  ·exact absurd h (cD h1.2)
  ·rw [O.Xm x hx c h] at hp;cases hp
theorem amT{c:Str}(hc:c∈C.ns){b:List Str}(hb:c∉b){A T:List Str}(hD:C.nE c=A++c::T)(hA:c∉A):C.pA c b=(A++(c::T).filter λg=>decide (g∉b))++b.filter λg=>decide (g∉A++(c::T).filter λg=>decide (g∉b)):=by
 unfold Cfg.pA
 by_cases h:C.front c=[]/\C.mix c=[]
 ·rw [if_pos h]
  have e:C.nE c=[c]:=by
   rw [Nj O hc]
   unfold kK
   rw [h.1,h.2]
   rfl
  rw [e] at hD
  have:A=[]/\T=[]:=by
   induction A using List.casesOn with
  |nil=>exact ⟨rfl,by simpa using hD.symm⟩
  |cons a A=>simp at hD
  obtain ⟨rfl,rfl⟩:=this
  have e2:([c].filter λg=>decide (g∉b))=[c]:=by simp [hb]
  rw [bN,e2]
  have e3:(b.filter λg=>decide (g∉[c]))=b:=gv.mpr λa ha=>by
   simp only [aJ,decide_eq_true_eq]
   rintro rfl
   exact hb ha
  rw [e3]
  rfl
 ·rw [if_neg h]
  dsimp only
  rw [hD,Yv c b T A hA]
structure LSp(C:Cfg)(f i:Nat)(o:Option Str):Prop where
 mem:∀g,(ol C f i o g).isSome=true↔g∈C.qz o
 nodup:(C.qz o).Nodup
 lvl:∀g s,ol C f i o g=some s->i<=s.1
 GR:(C.qz o).Pairwise λa b=>∀sa sb,ol C f i o a=some sa->ol C f i o b=some sb->sLt sa sb
theorem GU:∀(f i:Nat) (o:Option Str),(∀c,o=some c->c∈C.ns/\C.depth c<f)->LSp C f i o
|0,i,none,_=>⟨λg=>by show (none:Option Spot).isSome=true↔g∈[];simp,dJ,λg s h=>(by cases h),List.Pairwise.nil⟩
|f+1,i,none,_=>⟨λg=>by show (none:Option Spot).isSome=true↔g∈[];simp,dJ,λg s h=>(by cases h),List.Pairwise.nil⟩
|0,i,some c,h=>absurd (h c rfl).2 (uQ)
|f+1,i,some c,h=>by
  obtain ⟨hc,hd⟩:=h c rfl
  have ih:=GU f (i+1) (C.jJ c) λp hp=>by have:=O.jJ c hc p hp;exact ⟨this.1,qY (by assumption) this.2⟩
  have hb:=Yx O hc
  generalize GV:C.qz (C.jJ c)=b at hb
  have hD:=Nj O hc
  have hR:=GQ O (C:=C) (x:=c)
  generalize Yy:kK C 3 c=R at hD hR
  have hcD:c∈C.nE c:=by rw [hD,sG];exact ⟨hR,by simp⟩
  have nd:=Nc R []
  have sd:=Nf R []
  have mD:∀g,g∈C.nE c↔g∈R:=λg=>by rw [hD,sG];simp
  rw [<-hD] at nd sd
  obtain ⟨A,T,Ba⟩:=gU hcD
  rw [Ba] at nd sd
  have Yz:=nd
  rw [cA,bw] at Yz
  obtain ⟨nA,⟨nT,nT'⟩,nAT⟩:=Yz
  have hcA:c∉A:=λh=>nAT c h c (by simp) rfl
  have YB:=sd
  rw [fJ,c5] at YB
  obtain ⟨sA,⟨sc,sT⟩,sAT⟩:=YB
  have YC:∀g,g∈A↔g∈R/\R.idxOf g<R.idxOf c:=λg=>by
   constructor
   ·exact λh=>⟨(mD g).mp (by rw [Ba];simp [h]),sAT g h c (by simp)⟩
   ·rintro ⟨h1,h2⟩
    have:=(mD g).mpr h1
    rw [Ba] at this
    rcases aH.mp this with h|h
    ·exact h
    ·rcases aB.mp h with rfl|h
     ·exact absurd h2 (aM _)
     ·exact absurd (sc g h) (Nat.lt_asymm h2)
  have hl:C.qz (some c)=(A++(c::T).filter λg=>decide (g∉b))++b.filter λg=>decide (g∉A++(c::T).filter λg=>decide (g∉b)):=by
   rw [<-amT O hc hb Ba hcA]
   show C.line c=_
   rw [O.line c hc,<-GV]
   cases C.jJ c<;>rfl
  generalize hF:A++(c::T).filter (λg=>decide (g∉b))=F at hl
  have mF:∀g,g∈F↔g∈R/\(R.idxOf g<R.idxOf c\/g∉b):=λg=>by
   rw [<-hF,aH,YC,cC,decide_eq_true_eq]
   constructor
   ·rintro (⟨h1,h2⟩|⟨h1,h2⟩)
    ·exact ⟨h1,.inl h2⟩
    ·exact ⟨(mD g).mp (by rw [Ba];exact jq _ h1),.inr h2⟩
   ·rintro ⟨h1,h2⟩
    have:=(mD g).mpr h1
    rw [Ba] at this
    rcases aH.mp this with h|h
    ·exact .inl ((YC g).mp h)
    ·rcases h2 with h2|h2
     ·exact .inl ⟨h1,h2⟩
     ·exact .inr ⟨h,h2⟩
  have YD:F.Sublist (A++c::T):=by rw [<-hF];exact List.Sublist.append_left List.filter_sublist _
  have ib:∀g,(ol C f (i+1) (C.jJ c) g).isSome=true↔g∈b:=λg=>by rw [ih.mem,GV]
  have Du:∀g,g∈F->∃t,ol C (f+1) i (some c) g=some (i,R.idxOf g,t):=λg hg=>by
   obtain ⟨h1,h2⟩:=(mF g).mp hg
   rw [A9,Yy,if_pos h1]
   by_cases h3:R.idxOf g<R.idxOf c
   ·rw [if_pos h3];exact ⟨_,rfl⟩
   ·rw [if_neg h3]
    have h4:=h2.resolve_left h3
    induction hs:ol C f (i+1) (C.jJ c) g using Option.casesOn with
   |none=>exact ⟨_,rfl⟩
   |some s=>exact absurd ((ib g).mp (by rw [hs];rfl)) h4
  have Dv:∀g,g∉F->ol C (f+1) i (some c) g=ol C f (i+1) (C.jJ c) g:=λg hg=>by
   rw [mF] at hg
   rw [A9,Yy]
   by_cases h1:g∈R
   ·have h2:¬ R.idxOf g<R.idxOf c:=λh=>hg ⟨h1,.inl h⟩
    have h3:g∈b:=Classical.byContradiction λh=>hg ⟨h1,.inr h⟩
    rw [if_pos h1,if_neg h2]
    induction hs:ol C f (i+1) (C.jJ c) g using Option.casesOn with
   |none=>have:=(ib g).mpr h3;rw [hs] at this;cases this
   |some s=>rfl
   ·rw [if_neg h1]
  refine ⟨λg=>?_,?_,λg s hs=>?_,?_⟩
  ·rw [hl,aH,cC,decide_eq_true_eq]
   by_cases hg:g∈F
   ·obtain ⟨t,ht⟩:=Du g hg
    rw [ht]
    simp [hg]
   ·rw [Dv g hg,ib]
    simp [hg]
  ·rw [hl,cA]
   have nb:=ih.nodup
   rw [GV] at nb
   refine ⟨nd.sublist YD,nb.filter _,λa ha x hx e=>?_⟩
   subst e
   have:=(cC.mp hx).2
   simp [ha] at this
  ·by_cases hg:g∈F
   ·obtain ⟨t,ht⟩:=Du g hg
    rw [ht] at hs
    cases hs
    exact ak _
   ·rw [Dv g hg] at hs
    have:=ih.lvl g s hs
    exact Iu this
  ·rw [hl,fJ]
   have sb:=ih.GR
   rw [GV] at sb
   refine ⟨(sd.sublist YD).imp_of_mem λ{x y} hx hy Dw sa sb h1 h2=>?_,(sb.filter _).imp_of_mem λ{x y} hx hy Dw sa sb h1 h2=>?_,λx hx y hy sa sb h1 h2=>?_⟩
   ·obtain ⟨t1,e1⟩:=Du x hx
    obtain ⟨t2,e2⟩:=Du y hy
    rw [e1] at h1
    rw [e2] at h2
    cases h1
    cases h2
    exact .inr ⟨rfl,Dw⟩
   ·have n1:x∉F:=by simpa using (cC.mp hx).2
    have n2:y∉F:=by simpa using (cC.mp hy).2
    rw [Dv x n1] at h1
    rw [Dv y n2] at h2
    exact Dw sa sb h1 h2
   ·have n2:y∉F:=by simpa using (cC.mp hy).2
    obtain ⟨t1,e1⟩:=Du x hx
    rw [e1] at h1
    rw [Dv y n2] at h2
    cases h1
    have:=ih.lvl y sb h2
    exact .inl (by show i<sb.1;exact acf this)
end
end
section
def tS(o:AO)(sp:Sp)(ks:List Str):Prop:=(ks=[]/\o=.jE/\∀g,sp g=none)\/∃d u,o=.sd d u/\d.map az=ks/\ks.Nodup/\∀g,jv d g=(sp g).map yd
theorem YF{α:Type}:∀(d:List (Str×α)) (g:Str),(jv d g).isSome=true↔g∈d.map az
|[],g=>by simp [jv]
|(x,v)::r,g=>by
  unfold jv
  induction h:sq x g using Bool.casesOn with
 |true=>simp [kj.mp h]
 |false=>
   have:¬ g=x:=λe=>by rw [kj.mpr e.symm] at h;cases h
   simp only [cond_false,bT,aB,this,false_or]
   exact YF r g
theorem yf{α:Type}(x:Str)(v:α):∀(d:List (Str×α)),(jN d x v).map az=if x∈d.map az then d.map az else d.map az++[x]
|[]=>by simp [jN]
|(y,u)::r=>by
  unfold jN
  induction h:sq y x using Bool.casesOn with
 |true=>simp [kj.mp h]
 |false=>
   have:¬ x=y:=λe=>by rw [kj.mpr e.symm] at h;cases h
   simp only [cond_false,bT,aB,this,false_or,yf x v r]
   split<;>simp
section
variable{r:Nat}{sp:Sp}{ks:List Str}
theorem tS.mem(h:tS o sp ks)(g:Str):(sp g).isSome=true↔g∈ks:=by
 rcases h with ⟨rfl,rfl,h⟩|⟨d,u,rfl,rfl,_,h⟩
 ·rw [h];simp
 ·rw [<-YF d g,h]
  cases sp g<;>simp
theorem tS.pC(h:tS o sp ks)(hg:η.get r i=some o)(g:Str):sN (.str g) (.ref r i) η=some (sp g).isSome:=by
 show (η.get r i).bind _=_
 refine jQ hg ?_
 rcases h with ⟨rfl,rfl,h⟩|⟨d,u,rfl,rfl,_,h⟩
 ·exact congrArg some (by rw [h];rfl)
 ·exact congrArg some (by show (jv d g).isSome=_;rw [h];cases sp g<;>rfl)
theorem tS.item(h:tS o sp ks)(hg:η.get r i=some o){s:Spot}(hs:sp g=some s):jR tab (.ref r i) (.str g) η=some (yd s):=by
 rcases h with ⟨rfl,rfl,h⟩|⟨d,u,rfl,rfl,_,h⟩
 ·rw [h] at hs;cases hs
 ·refine lV hg ?_
  rw [h,hs]
  rfl
theorem tS.put(h:tS o sp ks)(hk:ks.length<=60000)(hg:η.get r i=some o)(g:Str)(s:Spot):∃o' Dx,nv (.ref r i) (.str g) (yd s) η=some (η.set r i o')/\tS o' (λy=>if y=g then some s else sp y) Dx/\Dx.length<=ks.length+1/\(∀y∈Dx,y∈ks\/y=g):=by
 rcases h with ⟨rfl,rfl,h⟩|⟨d,u,rfl,rfl,hn,h⟩
 ·refine Qv _ ([g]) (C0 hg rfl rfl) (.inr ⟨_,_,rfl,rfl,by simp,λy=>?_⟩) (by simp) (λy hy=>.inr (by simpa using hy))
  dsimp only
  by_cases e:y=g
  ·subst e
   rw [if_pos rfl,Dl];rfl
  ·rw [if_neg e,h]
   have:sq g y=false:=by
    induction hq:sq g y using Bool.casesOn with
   |false=>rfl
   |true=>exact absurd (kj.mp hq).symm e
   rw [XR this];rfl
 ·refine Qv _ _ (zh hg (by rw [aC] at hk;exact aa3 hk)) (.inr ⟨_,_,rfl,rfl,?_,λy=>?_⟩) ?_ (λy hy=>?_)
  ·rw [yf]
   split
   ·exact hn
   ·rename_i hx
    rw [cA]
    refine ⟨hn,by simp,λa ha b hb e=>?_⟩
    rw [aJ.mp hb] at e
    exact hx (e▸ha)
  ·rw [v5]
   dsimp only
   by_cases e:y=g
   ·rw [if_pos e,if_pos e];rfl
   ·rw [if_neg e,if_neg e,h]
  ·rw [yf]
   split
   ·exact Ec
   ·rw [aE];simp
  ·rw [yf] at hy
   split at hy
   ·exact .inl hy
   ·rcases aH.mp hy with hy|hy
    ·exact .inl hy
    ·exact .inr (aJ.mp hy)
theorem amU(v:Str)(l:List Str):∃t,sM (.str v) (jM l)=some t:=by
 induction l with
|nil=>exact ⟨false,rfl⟩
|cons a r ih=>exact ih.elim λt h=>⟨_,jQ (rfl:oV (.str a) (.str v)=some (sq a v)) (uE h rfl)⟩
theorem YG(v:Str)(l:List Str):∀(k:Nat),v∈l->yD (.str v) (jM l) k=some (k+l.idxOf v):=by
 induction l with
|nil=>exact λJ h=>absurd h aU
|cons a r ih=>
  refine λk h=>jQ (rfl:oV (.str a) (.str v)=some (sq a v)) ?_
  by_cases e:v=a
  ·rw [e]
   exact lA (kj.mpr rfl) ((amU a r).elim λt h=>uE h (congrArg some (by rw [List.idxOf_cons_self];rfl)))
  ·exact cnf (fu.mpr λz=>e (kj.mp z).symm) ((ih (k+1) ((aB.mp h).resolve_left e)).trans (congrArg some (by rw [ye a v r e];exact Pb)))
end
end
section
theorem YH:∀(l:List Str) (i:Nat) (h:i<l.length),l.idxOf l[i]<=i
|[],_,h=>absurd h (by simp)
|a::r,0,_=>by simp
|a::r,i+1,h=>by
  have hi:i<r.length:=by simpa using h
  have ih:=YH r i hi
  rw [List.getElem_cons_succ,gW]
  cases a == r[i]<;>simp<;>assumption
theorem YJ:∀(l:List Str) (y:Str),y∈l->∀n,l.idxOf y<n->y∈l.take n
|[],_,h,_,_=>nomatch h
|a::r,y,h,0,hn=>absurd hn (uQ)
|a::r,y,h,n+1,hn=>by
  rw [jr]
  by_cases e:y=a
  ·simp [e]
  ·rw [ye a y r e] at hn
   have:y∈r:=by rcases aB.mp h with h|h;exact absurd h e;exact h
   exact bu _ (YJ r y this n (aal hn))
theorem YK:∀(l:List Str) (n:Nat) (y:Str),y∈l.take n->l.idxOf y<n
|[],n,y,h=>by simp at h
|a::r,0,y,h=>by simp at h
|a::r,n+1,y,h=>by
  rw [jr] at h
  by_cases e:y=a
  ·subst e;simp
  ·rw [ye a y r e]
   have:y∈r.take n:=by rcases aB.mp h with h|h;exact absurd h e;exact h
   have:=YK r n y this
   exact H9 this
def YL:jF:=match Gf with
|.cons _ (.cons (.ri _ b) _)=>b
|_=>.nil
section
theorem GW{r:Nat}(h:η.get r i=some (.list l))(hl:l.length<=65536):qF tab (.builtin "len") [.ref r i] η=some (.int l.length,η):=jQ (o:=oJ (.ref r i) η) (oi h) (lA (mh hl) rfl)
theorem Dy{n:Nat}(h:n<=65536):qF tab (.type "range") [.int n] η=some (.mU 0 n,η):=by
 show cond (decide ((0:Int)<=n) && decide ((n:Int)<=65536)) _ _=_
 rw [decide_eq_true (show (0:Int)<=n by exact BH),decide_eq_true (show (n:Int)<=65536 by exact OY h)]
 rfl
theorem item_str{r:Nat}{l:List Str}{x:Str}(h:η.get r i=some (.list (jM l)))(hj:j<65536)(hx:l[j]?=some x):jR tab (.ref r i) (.int j) η=some (.str x):=by
 refine vA h (BH) (Ia hj) ?_
 unfold jM
 rw [Int.toNat_natCast,cQ,hx]
 rfl
structure LL(C:Cfg)(η:AH)(bkA:Nat)(x0:Nat)(lv:Nat)(o:Option Str)(sp:Sp)(e:Sl)(jt:AH):Prop where
 ke:Ke η jt
 sH:∃ob ks,jt.get η.reg η.ju=some ob/\tS ob sp ks/\ks.length<=30*lv/\∀y∈ks,y∈C.ns
 env:∃a b c d f g,e=[some (.ref 0 bkA),some (wM o),some (.ref η.reg η.ju),some (.int lv),a,b,c,d,f,g]
structure RI(C:Cfg)(η jt:AH)(lv:Nat)(c:Str)(R:List Str)(sp:Sp)(j:Nat)(jA:AH):Prop where
 ke:Ke η jA
 sp:∃ob ks,jA.get η.reg η.ju=some ob/\tS ob (qB lv c R (R.take j) sp) ks/\ks.length<=30*lv+j/\∀y∈ks,y∈C.ns
 row:jA.get jt.reg jt.ju=some (.list (jM R))
variable(O:lS C)(G:tQ B)(H:CB C B)(b:BW B η)
include O G H b
theorem YM{Q:Fl->Sl->AH->Prop}(hk:90<=k):∀(w lv:Nat) (o:Option Str) (sp:Sp) (e:Sl) (jt:AH),(∀c,o=some c->c∈C.ns/\C.depth c+1<w)->0<w->lv+w<=12->LL C η B.bk 0 lv o sp e jt->
  (∀GX GY e jt,LL C η B.bk 0 GX none GY e jt->GX<=12->GY=A8 C w lv o sp->Q .next e jt)->
  qL (λe η Q=>W k (.cmp .IsNot (.v 1) (.k .none)) e η Q) (λe η Q=>WS k YL 0 e η Q) w e jt Q
|0,_,_,_,_,_,_,hw,_,_,_=>absurd hw (dc rfl)
|w+1,lv,none,sp,e,jt,hc,hw,GZ,I,q=>by
  refine IJ (I.env) λa b' c d f g lX=>?_
  obtain rfl:=lX
  refine xW ?_
  wtm_at "W"
  exact q lv sp _ _ I (aam GZ) rfl
|w+1,lv,some c,sp,e,jt,hc,hw,GZ,I,q=>by
  refine IJ (I.env) λa1 a2 a3 a4 a5 a6 pJ=>?_
  obtain rfl:=pJ
  refine jP (hc c rfl) λzv Ma=>?_
  have b1:=b.ke I.ke
  refine xW ?_
  rw [show wM (some c)=.str c from rfl]
  wtm_at "W"
  unfold YL Gf
  dsimp only
  wtm_at "W"
  refine (Yg O G H 3 c jt k zv (by have:=O.rank c zv;exact D9 this) (dc rfl) b1 (by wtm_at "o")).ny λjB K1 h2=>?_
  refine jP (Dq O 3 c zv) λcm cl=>?_
  have YN:=GQ O (C:=C) (x:=c)
  generalize hR:kK C 3 c=R at h2 cm cl YN
  have cl:R.length<=21:=cl
  wtm_at "W"
  refine jw.nB (by wtm_at "o") (by intro _ h;cases h) (GW h2 (by rw [m6];exact BI cl)) ?_
  rw [m6]
  wtm_at "W"
  refine jw.nB (by wtm_at "o") (by intro _ h;cases h) (Dy (BI cl)) ?_
  refine Qu (I.sH) λob ks s1 s2 s3 s4=>?_
  have r':=I.ke.reg
  have nsp:=AH.qi s1 r'.symm
  refine Gs (n:=R.length) (BI cl) (λx:Jk=>[some (.ref 0 B.bk),some (.str c),some (.ref η.reg η.ju),some (.int lv),some (.ref jt.reg jt.ju),x 0,x 1,a4,a5,a6]) (λj J jA=>RI C η jt lv c R sp j jA) (λi=>[a2,a3].getD i none) rfl ⟨I.ke.trans K1,⟨ob,ks,K1.get _ _ _ s1,?_,s3,s4⟩,h2⟩ ?_ ?_
  rotate_left
  ·intro j t x jA hlen I2 G1 qG
   have Dz:∀jD,RI C η jt lv c R sp (j+1) jD->G1 [some (.ref 0 B.bk),some (.str c),some (.ref η.reg η.ju),some (.int lv),some (.ref jt.reg jt.ju),some (.int j),some (.str (R.getD j c)),a4,a5,a6] jD:=λjD I=>qG (λi=>([some (.int j),some (.str (R.getD j c))]:Sl).getD i none) jD I
   clear qG
   obtain ⟨K2,⟨ob,ks,u1,u2,u3,u4⟩,u5⟩:=I2
   have qN:j<R.length:=aan hlen
   obtain ⟨oP,Bb⟩:∃g,R[j]?=some g:=⟨R[j],aR qN⟩
   rw [dU,Bb] at Dz
   have Nm:oP∈R:=gw Bb
   have YQ:R.take (j+1)=R.take j++[oP]:=by
    rw [List.take_add_one,Bb];rfl
   refine ⟨_,rfl,?_⟩
   have i1:=item_str u5 (aao cl hlen) Bb
   have b2:=b.ke K2
   wtm_at "W"
   refine jY (qU u5 (by decide +kernel)) ?_
   wtm_at "W"
   refine qQ (M8 u5 (by rw [YG oP R 0 Nm,cU]) (by rw [m6];exact BI cl)) ?_
   wtm_at "W"
   have nV:R.idxOf oP<=j:=by
    rw [cY] at Bb
    refine o6 (Bb) λhh hg=>?_
    rw [<-hg]
    exact YH R j hh
   have amV:(R.idxOf oP≠j\/GL (qB lv c R (R.take j) sp oP)=true)->qB lv c R (R.take (j+1)) sp=qB lv c R (R.take j) sp:=by
    intro h
    funext y
    rw [YQ]
    unfold qB at h ⊢
    simp only [aH,aJ]
    by_cases hy:y=oP
    ·subst hy
     by_cases lU:y∈R.take j
     ·simp [lU]
     ·rcases h with h|h
      ·exact absurd (YJ R y Nm j (aap nV h)) lU
      ·rw [if_neg (λh=>lU h.1)] at h
       rw [if_neg (λq=>by rw [h] at q;exact nomatch q.2),if_neg (λq=>lU q.1)]
    ·simp [hy]
   have keep:(R.idxOf oP≠j\/GL (qB lv c R (R.take j) sp oP)=true)->RI C η jt lv c R sp (j+1) jA:=by
    intro h
    exact ⟨K2,⟨ob,ks,u1,(amV h).symm▸u2,by exact aaq u3,u4⟩,u5⟩
   by_cases DB:R.idxOf oP=j
   ·rw [show decide ((R.idxOf oP:Int)=(j:Int))=true from decide_eq_true (OZ DB)]
    wtm_at "W"
    refine AY (u2.pC u1 oP) ?_
    have nF:oP∉R.take j:=λh=>by have:=YK R j oP h;exact aar DB this
    have asg:GL (qB lv c R (R.take j) sp oP)=false->∀Q:Fl->Sl->AH->Prop,(∀jD,RI C η jt lv c R sp (j+1) jD->Q .next [some (.ref 0 B.bk),some (.str c),some (.ref η.reg η.ju),some (.int lv),some (.ref jt.reg jt.ju),some (.int j),some (.str oP),a4,a5,a6] jD)->
      WS k (.cons (.asg (.nZ (.v 2) (.v 6)) (.tup (.cons (.v 3) (.cons (.v 5) (.cons (.cmp .Lt (.v 5) (.mr (.v 4) Cq (.cons (.v 1) .nil))) .nil))))) .nil) 0 [some (.ref 0 B.bk),some (.str c),some (.ref η.reg η.ju),some (.int lv),some (.ref jt.reg jt.ju),some (.int j),some (.str oP),a4,a5,a6] jA Q:=by
     intro wK Q q
     wtm_at "W"
     refine jY (qU u5 (by decide +kernel)) ?_
     wtm_at "W"
     refine qQ (M8 u5 (by rw [YG c R 0 YN,cU]) (by rw [m6];exact BI cl)) ?_
     wtm_at "W"
     have ev:(.tup [.int lv,.int j,.bool (decide ((j:Int)<(R.idxOf c:Int)))]:PV)=yd (lv,j,decide (j<R.idxOf c)):=by
      unfold yd
      rw [show decide ((j:Int)<(R.idxOf c:Int))=decide (j<R.idxOf c) by rw [decide_eq_decide];exact aas]
     rw [ev]
     obtain ⟨ob',Dx,p1,p2,p3,p4⟩:=u2.put (by have:=u3;exact aat GZ cl u3 hlen) u1 oP (lv,j,decide (j<R.idxOf c))
     refine jY p1 ?_
     wtm_at "W"
     refine q _ ⟨K2.set rfl (ak _) _,⟨ob',Dx,AH.lG u1,?_,?_,λy hy=>?_⟩,?_⟩
     ·have:qB lv c R (R.take (j+1)) sp=λy=>if y=oP then some (lv,j,decide (j<R.idxOf c)) else qB lv c R (R.take j) sp y:=by
       funext y
       rw [YQ]
       unfold qB at wK ⊢
       simp only [aH,aJ]
       by_cases hy:y=oP
       ·subst hy
        rw [if_neg (λq=>nF q.1)] at wK
        rw [if_pos ⟨.inr rfl,wK⟩,if_pos rfl,DB]
       ·simp [hy]
      rw [this]
      exact p2
     ·exact aau u3 p3
     ·rcases p4 y hy with h|rfl
      ·exact u4 y h
      ·exact cm _ Nm
     ·rw [AH.ka (by rw [r'];exact aav nsp)]
      exact u5
    induction hs:qB lv c R (R.take j) sp oP using Option.casesOn with
   |none=>
     iterate 3 wtm_at "s"
     refine asg (by rw [hs];rfl) _ λjD h=>?_
     wtm_at "W"
     exact Dz _ h
   |some s=>
     obtain ⟨sl,sa,st⟩:=s
     have i3:=u2.item u1 hs
     have i4:jR tab (yd (sl,sa,st)) (.int 2) jA=some (.bool st):=rfl
     induction st using Bool.casesOn with
    |true=>
      wtm_at "W"
      exact Dz _ (keep (.inr (by rw [hs];rfl)))
    |false=>
      iterate 14 wtm_at "s"
      refine asg (by rw [hs];rfl) _ λjD h=>?_
      wtm_at "W"
      exact Dz _ h
   ·rw [show decide ((R.idxOf oP:Int)=(j:Int))=false from decide_eq_false (aaw DB)]
    wtm_at "W"
    exact Dz _ (keep (.inl DB))
  ·intro x jA I2
   obtain ⟨K2,⟨ob,ks,u1,u2,u3,u4⟩,u5⟩:=I2
   have b2:=b.ke K2
   have i1:=Yb G b2
   rw [List.take_length] at u2
   refine oH (G.above) λd u e1 e2=>?_
   have i2:jR tab (.ref 0 B.ab) (.str c) jA=some (wM (C.jJ c)):=lV (b2 _ _ e1) (by rw [e2,H.above c zv];rfl)
   wtm_at "W"
   refine mC (v:=.int (lv+1)) (u:=jA) rfl ?_
   wtm_at "W"
   refine YM hk w (lv+1) (C.jJ c) _ _ _ (λp hp=>by have:=O.jJ c zv p hp;exact ⟨this.1,av this.2 (cj Ma)⟩) (O0 Ma) (aax GZ) ⟨K2,⟨ob,ks,u1,u2,by exact aay cl u3,u4⟩,_,_,_,_,_,_,rfl⟩ λGX GY e jD I3 DC yg=>q GX GY e jD I3 DC ?_
   rw [yg,<-hR]
   rfl
  ·have:qB lv c R (R.take 0) sp=sp:=by
    funext y
    unfold qB
    rw [if_neg (λh=>by simp at h)]
   show tS ob (qB lv c R (R.take 0) sp) ks
   rw [this]
   exact s2
end
end
section
theorem DE{α:Type}[DecidableEq α]:∀(l m:List α),l.Nodup->(∀x∈l,x∈m)->l.length<=m.length
|[],m,_,_=>bx _
|x::l,m,hn,h=>by
  rw [bw] at hn
  refine wX (gU (h x (by simp))) λa b lX=>?_
  obtain rfl:=lX
  have:=DE l (a++b) hn.2 λy hy=>by
   have h1:=h y (by simp [hy])
   simp only [aH,aB] at h1 ⊢
   rcases h1 with h1|rfl|h1
   ·exact .inl h1
   ·exact absurd hy hn.1
   ·exact .inr h1
  simp only [aE,aZ] at this ⊢
  exact abW this
theorem amW{r:Nat}(h:η.get r i=some (.list l))(h1:2<=l.length)(h2:l.length<=60)(hs:xA l=some l'):qF tab (.builtin "sorted") [.ref r i] η=some (.ref η.reg η.ju,η.add (.list l')):=jQ (o:=oJ (.ref r i) η) (oi h) (lA (tu (dw.mpr h1) (dw.mpr h2)) (uE hs rfl))
section
variable(O:lS C)(G:tQ B)(H:CB C B)(b:BW B η)
include O G H b
theorem amX(hn:n∈C.ns)(h2:2<=(C.line n).length)(hK:120<=K):jw K (.st (.ref 1157)) [.ref 0 B.bk,.str n] η λv jt=>∃j,v=.ref η.reg j/\Ke η jt/\jt.get η.reg j=some (.list (jM (C.line n))):=by
 refine jw.le (k:=120) ?_ hK
 refine jw.wH 8 (as:=[.ref 0 B.bk,.str n]) 11 alr (by wtm_at "o") rfl (by kernel_rfl) ?_;intro _ _
 unfold Gf
 wtm_at "W"
 refine YM (k:=120 - (13+11+1)) O G H b (dc rfl) 11 0 (some n) (λJ=>none) _ _ (λc hc=>by cases hc;exact ⟨hn,by have:=O.deep n hn;exact abX this⟩) (dc rfl) (dc rfl) ⟨(Ke.refl η).add _,⟨.jE,[],AH.jT _ _,.inl ⟨rfl,rfl,λJ=>rfl⟩,by simp,λy h=>nomatch h⟩,_,_,_,_,_,_,rfl⟩ λlv sp e jB I hlv yg=>?_
 refine IJ (I.env) λa1 a2 a3 a4 a5 a6 pJ=>?_
 obtain rfl:=pJ
 refine Qu (I.sH) λob ks s1 s2 s3 s4=>?_
 have YR:∀g,sp g=ol C 11 0 (some n) g:=λg=>by
  rw [yg,Yr]
  dsimp only
  cases ol C 11 0 (some n) g<;>rfl
 have LS:=GU O 11 0 (some n) λc hc=>by cases hc;exact ⟨hn,by have:=O.deep n hn;exact Ib this⟩
 have hL:C.qz (some n)=C.line n:=rfl
 have mem:∀g,g∈C.line n↔g∈ks:=λg=>by rw [<-hL,<-LS.mem,<-s2.mem,YR]
 let f:Str->Spot:=λg=>(sp g).getD (0,0,false)
 have hf:∀g∈ks,sp g=some (f g):=λg hg=>by
  have:=(s2.mem g).mpr hg
  show sp g=some ((sp g).getD _)
  induction h:sp g using Option.casesOn with
 |none=>rw [h] at this;cases this
 |some s=>rfl
 have GR:(C.line n).Pairwise (GJ f):=by
  have:=LS.GR
  rw [hL] at this
  refine this.imp_of_mem λ{x y} hx hy Dw=>?_
  have h1:=hf x ((mem x).mp hx)
  have h2:=hf y ((mem y).mp hy)
  rw [YR] at h1 h2
  exact Dw _ _ h1 h2
 have nL:(C.line n).Nodup:=LS.nodup
 obtain ⟨lm,_⟩:=A1 O 9 hn (by have:=O.deep n hn;exact yv this)
 have r1:=I.ke.reg
 rcases s2 with ⟨rfl,_,_⟩|⟨d,u,rfl,hd,nk,gd⟩
 ·have:C.line n=[]:=gQ.mpr λg hg=>by have:=(mem g).mp hg;cases this
  rw [this] at h2
  simp at h2
 have amY:=Yq f ks (C.line n) nk nL mem GR
 have Nn:=DE ks (C.line n) nk λx hx=>(mem x).mpr hx
 have amZ:=DE (C.line n) ks nL λx hx=>(mem x).mp hx
 have Np:=DE (C.line n) C.ns nL lm
 have few:=O.few
 have nV:d.length=ks.length:=by rw [<-hd,aC]
 wtm_at "W"
 refine su ?_
 wtm_at "s";wtm_at "s"
 refine su ?_
 wtm_at "W"
 refine ⟨.keys η.reg η.ju u d.length,?_,rfl,?_⟩
 ·exact jQ s1 (lA (mh (abY (by assumption) Nn nV)) rfl)
 refine Xq (f:=.str) (all:=ks) (S:=.keys η.reg η.ju u d.length) (Inv:=λdn e jt=>(Ke jB jt/\jt.get jB.reg jB.ju=some (.list (dn.map (nZ f))))/\∃y,e=[some (.ref 0 B.bk),some (wM none),some (.ref η.reg η.ju),some (.int lv),a1,a2,a3,none,y,a6]) (λdn t e jt Bc I=>?_) ?_ ?_ [] _ _ _ rfl (by show ks.length<d.length+1;rw [nV];exact bG _) ⟨⟨(Ke.refl _).add _,AH.jT _ _⟩,_,rfl⟩
 ·refine jQ (Xi (I.1.1.get _ _ _ s1)) (lA (tu (bZ u) (bZ d.length)) (congrArg some ?_))
  have:(d[dn.length]?.map λp=>(.str p.1:PV))=(ks[dn.length]?).map .str:=by
   rw [<-hd,cQ,Option.map_map];rfl
  rw [this,<-cQ]
  exact Ms Bc
 ·intro dn x t e jt Bc I GG qG
  refine jP I λI z=>jP I λK1 h1=>o6 z λy ee=>?_
  subst ee
  refine ⟨_,rfl,?_⟩
  have hx:x∈ks:=by rw [Bc];simp
  have i1:jR tab (.ref η.reg η.ju) (.str x) jt=some (yd (f x)):=lV (K1.get _ _ _ s1) (by rw [gd,hf x hx];rfl)
  have dl:dn.length<ks.length:=by rw [Bc];simp
  wtm_at "s"
  refine ⟨λJ=>?_,λh=>nomatch h⟩
  wtm_at "W"
  refine ⟨_,?_,qG _ _ ⟨⟨K1.set rfl (ak _) _,AH.lG h1⟩,_,rfl⟩⟩
  refine (sy h1).trans ?_
  rw [mh (by rw [aC];exact abZ Nn Np few dl),cond_true,aV]
  rfl
 intro e jA I2
 refine jP I2 λI2 z=>jP I2 λK2 h3=>o6 z λy ee=>?_
 subst ee
 wtm_at "W"
 refine jw.nB (by wtm_at "o") (by intro _ h;cases h) (amW h3 (by rw [aC];exact ab0 h2 amZ) (by rw [aC];exact ab1 Nn Np few) amY) ?_
 have h4:=AH.jT jA (.list ((C.line n).map (nZ f)))
 have K3:=(I.ke.trans K2).add (.list ((C.line n).map (nZ f)))
 refine ⟨_,tE h4,rfl,?_⟩
 rw [tF h4,aC]
 revert h4 K3
 generalize aq3:jA.add (.list ((C.line n).map (nZ f)))=jD
 intro h4 K3
 refine uG (nZ f) (C.line n) (Ip (by assumption)) (λy:Option PV×Option PV=>[some (.ref 0 B.bk),some (wM none),some (.ref η.reg η.ju),some (.int lv),a1,a2,a3,none,y.1,y.2]) (λdn J jt=>Ke jD jt/\jt.get jD.reg jD.ju=some (.list (jM dn))) (_,_) rfl (λdn J jt h=>h.1.get _ _ _ h4) ⟨(Ke.refl _).add _,AH.jT _ _⟩ ?_ ?_
 ·intro dn x t y jt Bc I GG qG
  refine jP I λK4 h5=>?_
  refine ⟨_,rfl,?_⟩
  have dl:dn.length<(C.line n).length:=by rw [Bc];simp
  wtm_at "s"
  refine ⟨λJ=>?_,λh=>nomatch h⟩
  wtm_at "W"
  refine ⟨_,?_,qG (_,_) _ ⟨K4.set rfl (ak _) _,AH.lG h5⟩⟩
  refine (sy h5).trans ?_
  rw [mh (by rw [m6];exact ab2 Np few dl),cond_true,tR]
  rfl
 intro y jV I
 refine jP I λK4 h5=>?_
 wtm_at "W"
 refine jO ⟨_,by rw [K3.reg],K3.trans K4,?_⟩
 rw [<-K3.reg]
 exact h5
end
end
local macro_rules |`(tactic| wtm_at "new")=>`(tactic| ((wtm_at "W");wtm_at "q tN";kernel_rfl;decide;intro jB aq4))
theorem New.add{R L:Nat}{c:Addr}(I:New η R N L c fs jt)(o:AO):New η R N L c fs (jt.add o):=⟨I.ke.add o,I.reg,I.ju,AH.lz I.at_,I.len⟩
theorem New.attr{R L:Nat}{c:Addr}(I:New η R N L c fs jt){a:Str}(h1:jv fs a=some v)(hv:oK v=true)(h2:(jL tab.fields c).map (o8 · a)=some true):kE tab (.ref R N) a jt=some v:=rD I.at_ h2 h1 hv
section
theorem am0{nm ot cl:PV}(hv:oK cl=true)(hK:10<=K):jw K (.st (.ref 633)) [nm,ot,cl] η λv jt=>v=.ref η.reg η.ju/\Ke η jt/\kE tab v lB jt=some cl:=by
 refine jw.le (k:=10) ?_ hK
 refine jw.zj (as:=[.ref η.reg η.ju,nm,ot,cl]) 0 (by kernel_rfl) (show jL tab.oU 633=some 609 by kernel_rfl) ak1 (by wtm_at "o") (by kernel_rfl) ?_;intro _ _
 unfold Wu
 have I:=zp (η:=η) (c:=633)
 wtm_at "new";wtm_at "new";wtm_at "new"
 wtm_at "W"
 rename_i I
 exact wI ⟨rfl,rfl,I.ke,I.attr (by kernel_rfl) hv (by kernel_rfl)⟩
theorem YS{kd nd en:PV}(hv:oK en=true)(hK:20<=K):jw K (.st (.ref 655)) [kd,nd,en] η λv jt=>v=.ref η.reg η.ju/\Ke η jt/\kE tab v z4 jt=some en:=by
 refine jw.le (k:=20) ?_ hK
 refine jw.zj (as:=[.ref η.reg η.ju,kd,nd,en,.none]) 0 (by kernel_rfl) (show jL tab.oU 655=some 652 by kernel_rfl) ak2 (by wtm_at "o") (by kernel_rfl) ?_;intro _ _
 unfold Wv
 have I:=zp (η:=η) (c:=655)
 wtm_at "new";wtm_at "new";wtm_at "new";wtm_at "new";wtm_at "new"
 wtm_at "W"
 rename_i I
 have I2:=I.add (.list [])
 wtm_at "new";wtm_at "new"
 wtm_at "W"
 rename_i I
 exact wI ⟨rfl,rfl,I.ke,I.attr (by kernel_rfl) hv (by kernel_rfl)⟩
theorem am1{wd tb ca:PV}(hv:oK wd=true)(hK:20<=K):jw K (.st (.ref 754)) [wd,tb,ca] η λv jt=>v=.ref η.reg η.ju/\Ke η jt/\kE tab v yS jt=some wd:=by
 refine jw.le (k:=20) ?_ hK
 refine jw.zj (as:=[.ref η.reg η.ju,wd,tb,ca]) 0 (by kernel_rfl) (show jL tab.oU 754=some 673 by kernel_rfl) ak3 (by wtm_at "o") (by kernel_rfl) ?_;intro _ _
 unfold Ww
 have I:=zp (η:=η) (c:=754)
 wtm_at "new";wtm_at "new";wtm_at "new"
 wtm_at "W"
 rename_i I
 have I2:=I.add (.list [])
 wtm_at "new";wtm_at "new";wtm_at "new"
 wtm_at "W"
 rename_i I
 exact wI ⟨rfl,rfl,I.ke,I.attr (by kernel_rfl) hv (by kernel_rfl)⟩
theorem am2{re nm ar bl kd:PV}(hv:oK kd=true)(hK:20<=K):jw K (.st (.ref 515)) [re,nm,ar,bl,kd] η λv jt=>v=.ref η.reg η.ju/\Ke η jt/\kE tab v wo jt=some kd:=by
 refine jw.le (k:=20) ?_ hK
 refine jw.zj (as:=[.ref η.reg η.ju,re,nm,ar,bl,kd,.none,.none]) 0 (by kernel_rfl) (show jL tab.oU 515=some 505 by kernel_rfl) akZ (by wtm_at "o") (by kernel_rfl) ?_;intro _ _
 unfold Wr
 have I:=zp (η:=η) (c:=515)
 wtm_at "new";wtm_at "new";wtm_at "new";wtm_at "new";wtm_at "new";wtm_at "new";wtm_at "new";wtm_at "new"
 wtm_at "W"
 rename_i I
 exact wI ⟨rfl,rfl,I.ke,I.attr (by kernel_rfl) hv (by kernel_rfl)⟩
theorem am3{cd pc st cl:PV}(hv:oK cl=true)(hK:20<=K):jw K (.st (.ref 486)) [cd,pc,st,sc,cl] η λv jt=>v=.ref η.reg η.ju/\Ke η jt/\kE tab v lB jt=some cl:=by
 refine jw.le (k:=20) ?_ hK
 refine jw.zj (as:=[.ref η.reg η.ju,cd,pc,st,sc,cl]) 0 (by kernel_rfl) (show jL tab.oU 486=some 469 by kernel_rfl) akY (by wtm_at "o") (by kernel_rfl) ?_;intro _ _
 unfold Wq
 have I:=zp (η:=η) (c:=486)
 wtm_at "new";wtm_at "new";wtm_at "new";wtm_at "new";wtm_at "new";wtm_at "new";wtm_at "new";wtm_at "new";wtm_at "new";wtm_at "new";wtm_at "new";wtm_at "new"
 wtm_at "W"
 rename_i I
 exact wI ⟨rfl,rfl,I.ke,I.attr (by kernel_rfl) hv (by kernel_rfl)⟩
theorem am4{me en ar bl nu ne de:PV}(hv:oK me=true)(hK:20<=K):jw K (.st (.ref 451)) [me,en,ar,bl,nu,ne,de,.str Fe] η λv jt=>v=.ref η.reg η.ju/\Ke η jt/\kE tab v yR jt=some me:=by
 refine jw.le (k:=20) ?_ hK
 refine jw.zj (as:=[.ref η.reg η.ju,me,en,ar,bl,nu,ne,de,.str Fe,.bool false]) 0 (by kernel_rfl) (show jL tab.oU 451=some 441 by kernel_rfl) akX (by wtm_at "o") (by kernel_rfl) ?_;intro _ _
 unfold Wo
 have I:=zp (η:=η) (c:=451)
 wtm_at "new";wtm_at "new";wtm_at "new";wtm_at "new";wtm_at "new";wtm_at "new";wtm_at "new";wtm_at "new";wtm_at "new";wtm_at "new";wtm_at "new"
 wtm_at "W"
 rename_i I
 exact wI ⟨rfl,rfl,I.ke,I.attr (by kernel_rfl) hv (by kernel_rfl)⟩
end
section
theorem yh(S:kg η jt){r:Nat}(hr:r≠1){a:Str}(h:kE tab (.ref r i) a η=some v):kE tab (.ref r i) a jt=some v:=by
 exact jz (show (η.ins r i).bind _=_ from h) λc hc h=>jQ (o:=gR (.ref r i)) rfl (jQ (Gi (S.get _ _ _ hr (EI hc))) h)
def uJ(η:AH)(a:Str)(me:PV)(v:PV):Prop:=v=.none\/∃i j,v=.ref 2 i/\kE tab (.ref 2 i) a η=some (.ref 2 j)/\kE tab (.ref 2 j) yR η=some me
theorem uJ.kR(S:kg η jt){a:Str}{me:PV}(h:uJ η a me v):uJ jt a me v:=by
 rcases h with h|⟨i,j,h1,h2,h3⟩
 ·exact .inl h
 ·exact .inr ⟨i,j,h1,yh S (dc rfl) h2,yh S (dc rfl) h3⟩
theorem uJ.frm{a:Str}{me:PV}(h:uJ η a me v):MP η a me v:=by
 rcases h with h|⟨i,j,rfl,h2,h3⟩
 ·exact .inl h
 ·exact .inr ⟨_,rfl,h2,h3⟩
set_option genCtorIdx false in
structure Way where
 how:Str
 env:Bool
 kind:Str
 frm:Bool
 lets:Bool
def am5(en fr:PV)(w:Way):PV:=.tup [.str w.how,cond w.env en .none,.str w.kind,cond w.frm fr .none,.bool w.lets]
structure YT(g:Str)(sn:Bool)(w:Way):Prop where
 how:w.how=lB\/w.how=pY\/w.how=pZ
 kind:w.kind=lB\/w.kind=pY\/w.kind=pZ\/w.kind=Aa
 ref:(!sq w.how lB || sq g kU || (sq g mq && w.env && sn))=w.lets
 hid:((sq w.kind pY || sq w.kind pZ) || sq g kU || (sq w.kind lB && sq g mq && w.frm && sn))=w.lets
theorem am6(hv:Val C v h):oK v=true:=by
 rcases hv with ⟨rfl,_⟩|⟨rfl,_⟩|⟨i,fs,o,c,rfl,_⟩|⟨n,_,rfl,_⟩<;>rfl
def YV:jF:=match xU with
|.cons _ (.cons _ (.cons _ (.cons _ (.cons _ (.cons _ (.cons _ (.cons _ (.cons _ (.cons _ (.cons (.for _ _ _ b) _))))))))))=>b
|_=>.nil
section
variable(O:lS C)
include O
theorem am7(F:WF C jt){w:Way}{s o hs:Str}{me value ev en fr Be:PV}{DF G0 YW YX YY p25 YZ Y0 Y3:Option PV}{Q:Fl->Sl->AH->Prop}
  (hk:250<=k) (hw:YT g (sends C hs o) w) (hg:g=kU\/g=mq\/g=nQ) (ho:o∈C.ns) (hE:lI C jt ev s g o) (sE:Val C me hs) (hen:uJ jt lB me en) (wK:uJ jt lB me fr) (am8:mJ en=false) (am9:mJ fr=false) (ana:oK en=true)
  (hd:kE tab Be yS jt=some (.ref 1 C.jW)) (hdk:∃i,Be=.ref 2 i)
  (q:∀lC x,WF C lC->kg jt lC->Q .next [p0,p1,p2,p3,p4,p5,some value,some (.str C.name),p8,some ev,ry,rz,sr,some Be,some (.str w.how),DF,some (.str g),G0,YW,YX,YY,some (cond w.env en .none),some (.str w.kind),some (cond w.frm fr .none),some (.bool w.lets),x,YZ,Y0,Y3] lC) (h0:p0=some (.ref 1 C.jW)) :
  WS k YV 0 [p0,p1,p2,p3,p4,p5,some value,some (.str C.name),p8,some ev,ry,rz,sr,some Be,some (.str w.how),DF,some (.str g),G0,YW,YX,YY,some (cond w.env en .none),some (.str w.kind),some (cond w.frm fr .none),some (.bool w.lets),p25,YZ,Y0,Y3] jt Q:=by
 subst h0
 obtain ⟨how,env,kind,frm,lets⟩:=w
 obtain ⟨w1,w2,w3,w4⟩:=hw
 dsimp only at w1 w2 w3 w4 q ⊢
 unfold YV xU
 dsimp only
 have hev:oK (cond env en .none)=true:=by cases env;rfl;exact ana
 wtm_at "W"
 refine (YS hev (by wtm_at "o")).ny λjB K1 h2=>?_
 have S1:kg jt jB:=(((Ke.refl jt).add (.list [])).trans K1).kR
 have F1:WF C jB:=F.ke (((Ke.refl jt).add (.list [])).trans K1)
 have E1:=hE.ke S1.inst
 have fe:uJ jB lB me (cond env en .none):=by
  cases env
  ·exact .inl rfl
  ·exact hen.kR S1
 have enn:mJ (cond env en .none)=!env:=by cases env;rfl;exact am8
 wtm_at "W"
 refine (amr (rc:=value) (how:=how) O F1 _ h2 fe.frm E1 ho sE hg w1 (by wtm_at "o")).pM λv jA h3 F2 S2=>?_
 rw [enn,gN,w3] at h3
 have qV:=S1.trans S2
 have fin:∀(e:Sl) (R:PV->AH->Prop),look e 9=some ev->(∀jD,WF C jD->kg jA jD->R (.bool (!lets)) jD)->jw k (.st (.ref 515)) [value,.str C.name,.ref jA.reg jA.ju,.none,.str kind] (jA.add (.list [])) (λv η=>WL k (.cons (.v 9) .nil) e η λvs η=>jw k (.st (.ref 526)) (Be::(cond frm fr .none)::v::vs) η R):=by
  intro e R he hR
  refine (am2 rfl (by wtm_at "o")).ny λjD K3 h4=>?_
  have S3:kg jA jD:=(((Ke.refl jA).add (.list [])).trans K3).kR
  have F3:WF C jD:=F2.ke (((Ke.refl jA).add (.list [])).trans K3)
  have E3:=(E1.ke S2.inst).ke S3.inst
  have ff:uJ jD lB me (cond frm fr .none):=by
   cases frm
   ·exact .inl rfl
   ·exact wK.kR (qV.trans S3)
  have fnn:mJ (cond frm fr .none)=!frm:=by cases frm;rfl;exact am9
  obtain ⟨i,rfl⟩:=hdk
  have d3:=yh (qV.trans S3) (dc rfl) hd
  wtm_at "s"
  refine qh he ?_
  wtm_at "s"
  refine (amq O F3 d3 ff.frm h4 E3 ho sE hg w2 (by wtm_at "o")).pM λv jV h5 F4 S4=>?_
  rw [fnn,gN,w4] at h5
  rw [h5]
  exact hR _ F4 (S3.trans S4)
 induction lets using Bool.casesOn with
|true=>
  rw [if_pos rfl] at h3
  subst h3
  wtm_at "W"
  refine fin _ _ rfl λjD F3 S3=>?_
  wtm_at "W"
  exact q _ _ F3 (qV.trans S3)
|false=>
  rw [if_neg (by simp)] at h3
  subst h3
  have Nq:sq g g=true:=kj.mpr rfl
  wtm_at "W"
  refine alH (by show some (!sq g g)=_;rw [Nq];rfl) ?_
  wtm_at "W"
  refine fin _ _ rfl λjD F3 S3=>?_
  wtm_at "W"
  exact q _ _ F3 (qV.trans S3)
end
end
theorem Y4(C:Cfg)(P R:Str->Prop):∀(l:List Str) (sg:Option Str),(∀n∈l,∀s g o,C.has n=some (s,g,o)->P g/\R o)->(∀g,sg=some g->P g)->∀g o,oj C sg l=some (g,o)->P g/\R o
|[],sg,_,_,g,o,h=>by cases h
|n::r,sg,hl,hs,g,o,h=>by
  rw [MG] at h
  have ih:=Y4 C P R r
  induction hh:C.has n using Option.casesOn with
 |none=>
   rw [hh] at h
   exact ih sg (λn hn=>hl n (by simp [hn])) hs g o h
 |some p=>
   obtain ⟨s',g',o'⟩:=p
   rw [hh] at h
   dsimp only at h
   have h1:=hl n (by simp) s' g' o' hh
   have hg:P (sg.getD g'):=by
    induction vD:sg using Option.casesOn with
   |none=>exact h1.1
   |some x=>exact hs x vD
   split at h
   ·exact ih (some (sg.getD g')) (λn hn=>hl n (by simp [hn])) (λx hx=>by cases hx;exact hg) g o h
   ·split at h
    ·exact xn h
    ·refine xp h λDd zo=>?_
     try clear h
     obtain rfl:=Dd
     obtain rfl:=zo
     exact ⟨hg,h1.2⟩
structure Y5(C:Cfg)(md:Nat):Prop where
 anb:∀n∈C.ns,∀s g o,C.has n=some (s,g,o)->g=kU\/g=mq\/g=nQ
 cnt:∀n∈C.ns,∀s g o,C.has n=some (s,g,o)->Dm o=rF C o
 mods:∃l u,C.fix md=some (.sd l u)/\∀n∈C.ns,∀s g o,C.has n=some (s,g,o)->jv l o=some (C.m o)
theorem DG{r:Nat}{Q:PV->AH->Prop}(h:η.get r i=some (.list l))(h':η.get r' i'=some (.list l'))(hl:l.length+l'.length<=65536)(q:∀jA j,Ke η jA->jA.get η.reg j=some (.list (l++l'))->η.ju<=j->Q (.ref η.reg j) jA):∃v jt,qZ .Add (.ref r i) (.ref r' i') η=some (v,jt)/\Q v jt:=
 mC (add_lists h h' hl) (q _ _ ((Ke.refl η).add _) (AH.jT _ _) (ak _))
theorem Y6{r:Nat}(h:η.get r i=some (.list [v])):qZ .Mult (.ref r i) (.int 3) η=some (.ref η.reg η.ju,η.add (.list [v,v,v])):=jQ (oi h) rfl
theorem Nr{r:Nat}{b:Bool}(h:η.get r i=some (.list l))(h':η.get r' i'=some (.list l'))(hl:l.length=l'.length)(mQ:¬ (r=r'/\i=i'))(he:BZ l l'=some b):uR (.ref r i) (.ref r' i') η=some b:=jQ (o:=oJ (.ref r i) η) (oi h) (jQ (o:=oJ (.ref r' i') η) (oi h') (lA (by rw [hl];exact bZ _) (cnf ((cM _).mp (Gj mQ)) he)))
theorem anc(v:Str)(l:List Str):sM (.str v) (jM l)=some (decide (v∈l)):=by
 induction l with
|nil=>rfl
|cons a r ih=>exact jQ (rfl:oV (.str a) (.str v)=some (sq a v)) (uE ih (congrArg some (by
   rw [fH,bC,kj,decide_eq_true_iff,decide_eq_true_iff,aB]
   exact or_congr_left eq_comm)))
theorem zx{r:Nat}{l:List Str}(h:η.get r i=some (.list (jM l)))(v:Str):nh .In (.str v) (.ref r i) η=some (decide (v∈l)):=by
 show (η.get r i).bind _=_
 exact jQ h (anc v l)
theorem Bf{α β:Type}(f:α->β):∀(t:List (Str×α)) (x:Str),jv (t.map λp=>(p.1,f p.2)) x=(jv t x).map f
|[],_=>rfl
|(y,v)::r,x=>by
  show cond (sq y x) (some (f v)) (jv (r.map λp=>(p.1,f p.2)) x)=(cond (sq y x) (some v) (jv r x)).map f
  induction sq y x using Bool.casesOn with
 |true=>rfl
 |false=>exact Bf f r x
theorem ane(o:Str):getM [(kP,.str jK),(lM,.str jS),(ku,.str jS),(nG,.str lZ)] [.str o,.str o]=some (.str (Dm o)):=by
 have:=Bf PV.str [(kP,jK),(lM,jS),(ku,jS),(nG,lZ)] o
 unfold Dm
 show some ((jv _ _).getD _)=_
 congr 1
 rw [show ([(kP,PV.str jK),(lM,.str jS),(ku,.str jS),(nG,.str lZ)]:List (Str×PV))=([(kP,jK),(lM,jS),(ku,jS),(nG,lZ)]:List (Str×Str)).map λp=>(p.1,PV.str p.2) from rfl,this]
 cases jv [(kP,jK),(lM,jS),(ku,jS),(nG,lZ)] o<;>rfl
def G3(g:Str)(sn:Bool):List Way:=[⟨lB,true,lB,true,sq g kU || (sq g mq && sn)⟩,⟨pY,true,pY,true,true⟩,⟨pZ,true,pZ,true,true⟩,⟨lB,false,Aa,true,sq g kU⟩,⟨lB,false,lB,false,sq g kU⟩]
theorem anf(hg:g=kU\/g=mq\/g=nQ)(sn:Bool):∀w∈G3 g sn,YT g sn w:=by
 intro w hw
 unfold G3 at hw
 simp only [aB,aU,or_false] at hw
 rcases hw with rfl|rfl|rfl|rfl|rfl
 ·refine ⟨.inl rfl,.inl rfl,?_,?_⟩
  all_goals
   dsimp only
   rcases hg with rfl|rfl|rfl<;>cases sn<;>kernel_rfl
 ·refine ⟨.inr (.inl rfl),.inr (.inl rfl),?_,?_⟩
  all_goals
   dsimp only
   rcases hg with rfl|rfl|rfl<;>cases sn<;>kernel_rfl
 ·refine ⟨.inr (.inr rfl),.inr (.inr (.inl rfl)),?_,?_⟩
  all_goals
   dsimp only
   rcases hg with rfl|rfl|rfl<;>cases sn<;>kernel_rfl
 ·refine ⟨.inl rfl,.inr (.inr (.inr rfl)),?_,?_⟩
  all_goals
   dsimp only
   rcases hg with rfl|rfl|rfl<;>cases sn<;>kernel_rfl
 ·refine ⟨.inl rfl,.inl rfl,?_,?_⟩
  all_goals
   dsimp only
   rcases hg with rfl|rfl|rfl<;>cases sn<;>kernel_rfl
noncomputable def cut:Nat->jF->jF->jF
|n+1,.cons s t,r=>.cons s (cut n t r)
|_,_,r=>r
def Nt:jF:=kW 8 xU
theorem ang:xU=cut 8 xU Nt:=rfl
section
theorem anh(O:lS C)(G:tQ B)(H:CB C B)(F:WF C η)(b:BW B η){md:Nat}(A:Y5 C md){me value:PV}{hs hr:Str}(sE:Val C me hs)(zy:Val C value hr)(Y7:hs∈C.ns)(Nu:hr∈C.ns){sl rl:Nat}(G4:η.get 2 sl=some (.list (jM (C.line hs))))(Nv:η.get 2 rl=some (.list (jM (C.line hr))))(hK:300<=K):
  jw K (.st (.ref 1167)) [.ref 1 C.jW,.ref 0 B.bk,.ref 1 md,.tup [me,.ref 2 sl],.tup [value,.ref 2 rl]] η λv jt=>v=.bool true/\WF C jt/\kg η jt:=by
 refine jw.le (k:=300) ?_ hK
 refine jw.wH 24 (as:=[.ref 1 C.jW,.ref 0 B.bk,.ref 1 md,.tup [me,.ref 2 sl],.tup [value,.ref 2 rl]]) 0 alu (by wtm_at "o") rfl (by kernel_rfl) ?_;intro _ _
 rw [ang]
 unfold xU
 dsimp only [cut]
 have ani:=am6 sE
 obtain ⟨lm,ll⟩:=A1 O 9 Nu (by have:=O.deep hr Nu;exact yv this)
 obtain ⟨sm,aq5⟩:=A1 O 9 Y7 (by have:=O.deep hs Y7;exact yv this)
 have nm:=amE G b
 rw [<-H.name] at nm
 have t1:jR tab (.tup [me,.ref 2 sl]) (.int 0) η=some me:=rfl
 have t2:jR tab (.tup [value,.ref 2 rl]) (.int 0) η=some value:=rfl
 have t3:jR tab (.tup [value,.ref 2 rl]) (.int 1) η=some (.ref 2 rl):=rfl
 wtm_at "W"
 refine (amP G H b lm (aeM ll) Nv (by wtm_at "o")).AF λfv jB yi K1=>?_
 have F1:=F.ke K1
 have m1:=F1.wm O (nm:=rY) (by simp) (f:=869) (by kernel_rfl)
 wtm_at "W"
 refine (GB O F1 zy (by wtm_at "o")).ny λjt J h3=>?_
 subst h3
 wtm_at "W"
 refine (MJ O F1 Nu (by wtm_at "o")).pM λev jA F2 S2 G5=>?_
 wtm_at "W"
 refine (am4 ani (by wtm_at "o")).ny λjD K3 Nx=>?_
 have Y8:=((Ke.refl jA).add (.list [])).trans K3
 have r2:=F2.reg
 rw [AH.oh,r2] at Nx ⊢
 generalize (jA.add (.list [])).ju=jc at Nx ⊢
 wtm_at "W"
 refine (am0 rfl (by wtm_at "o")).ny λjV K4 Ny=>?_
 have Nz:=((Ke.refl jD).add .jE).trans K4
 have r3:jD.reg=2:=Y8.reg.trans r2
 rw [AH.oh,r3] at Ny ⊢
 generalize (jD.add .jE).ju=je at Ny ⊢
 wtm_at "W"
 refine (am3 rfl (by wtm_at "o")).ny λkJ K5 NB=>?_
 have G6:=((Ke.refl jV).add (.list [])).trans K5
 have r4:jV.reg=2:=Nz.reg.trans r3
 rw [AH.oh,r4] at NB ⊢
 generalize (jV.add (.list [])).ju=jf at NB ⊢
 wtm_at "W"
 refine (am1 rfl (by wtm_at "o")).ny λoF K6 NC=>?_
 have G7:=((Ke.refl kJ).add .jE).trans K6
 have r5:kJ.reg=2:=G6.reg.trans r4
 rw [AH.oh,r5] at NC ⊢
 generalize (kJ.add .jE).ju=jd at NC ⊢
 have ND:=((Y8.trans Nz).trans G6).trans G7
 have F6:=F2.ke ND
 have S6:kg η oF:=(K1.kR.trans S2).trans ND.kR
 have b6:=b.kR S6
 have Y9:=yh (((Nz.trans G6).trans G7).kR) (dc rfl) Nx
 have anj:=yh ((G6.trans G7).kR) (dc rfl) Ny
 have ank:=yh (G7.kR) (dc rfl) NB
 have fen:uJ oF lB me (.ref 2 je):=.inr ⟨_,_,rfl,anj,Y9⟩
 have ffr:uJ oF lB me (.ref 2 jf):=.inr ⟨_,_,rfl,ank,Y9⟩
 have anl:=S6.get _ _ _ (dc rfl) G4
 wtm_at "W"
 induction hf:oj C none (C.line hr) using Option.casesOn with
|none=>
  rw [hf] at G5 yi
  have:ev=.none:=G5
  have yi:fv=.none:=yi
  subst this yi
  have r6:=F6.reg
  wtm_at "W"
  refine su ?_
  wtm_at "W"
  have hA:=AH.jT oF (.list [.str lB,.str pY,.str pZ])
  have KA:=(Ke.refl oF).add (.list [.str lB,.str pY,.str pZ])
  revert hA KA
  generalize hAA:oF.add (.list [.str lB,.str pY,.str pZ])=Bg
  intro hA KA
  have rA:Bg.reg=2:=KA.reg.trans r6
  rw [r6] at hA
  rw [r6]
  refine Xx .str [lB,pY,pZ] (dc rfl) (λa:Option PV=>[some (.ref 1 C.jW),some (.ref 0 B.bk),some (.ref 1 md),some (.tup [me,.ref 2 sl]),some (.tup [value,.ref 2 rl]),some me,some value,some (.str C.name),some .none,some .none,some (.ref 2 jc),some (.ref 2 je),some (.ref 2 jf),some (.ref 2 jd),none,none,none,none,none,none,none,none,none,none,none,none,none,a,none]) (λd J jt=>Ke Bg jt/\∃ts:List (Str×Nat),ts.map az=d/\jt.get 2 Bg.ju=some (.list (ts.map λp=>.tup [.str p.1,.ref 2 p.2]))) _ rA hA rfl rfl (λJ J J I=>I.1.get _ _ _ hA) ⟨(Ke.refl _).add _,[],rfl,by have:=AH.jT Bg (.list []);rw [rA] at this;exact this⟩ (λd x t a jt hd I GG qG=>?_) (λa G8 I=>?_)
  ·refine jP I λSB I2=>?_
   refine jZ I2 λts ht G9=>?_
   refine ⟨_,rfl,Xv ?_ (by dsimp only [qR,qS,dW,bq,bW,bN])⟩;intro _ _
   have rB:jt.reg=2:=SB.reg.trans rA
   have hl:ts.length<=3:=by rw [<-aC (f:=az),ht];have:([lB,pY,pZ]:List Str).length=3:=rfl;rw [hd] at this;simp at this;exact aeN this
   wtm_at "W"
   refine (YS rfl (by wtm_at "o")).ny λHf KC J=>?_
   have NF:=((Ke.refl jt).add (.list [])).trans KC
   rw [AH.oh,rB]
   wtm_at "W"
   have NH:=NF.get _ _ _ G9
   have lt:=AH.qi NH (NF.reg.trans rB).symm
   refine ⟨Hf.set 2 Bg.ju (.list ((ts.map λp=>.tup [.str p.1,.ref 2 p.2])++[.tup [.str x,.ref 2 (jt.add (.list [])).ju]])),?_,qG _ _ ⟨(SB.trans NF).set rA.symm (ak _) _,ts++[(x,(jt.add (.list [])).ju)],?_,?_⟩⟩
   ·refine (sy NH).trans ?_
    rw [mh (by rw [aC];exact aeO hl)]
    rfl
   ·rw [aV,ht];rfl
   ·rw [AH.lG NH,aV];rfl
  refine jP I λSB I2=>?_
  refine jZ I2 λts ht G9=>?_
  have rB:G8.reg=2:=SB.reg.trans rA
  have Za:=KA.trans SB
  have FB:=F6.ke Za
  have DC:ts.length=3:=by rw [<-aC (f:=az),ht];rfl
  wtm_at "W"
  refine su ?_
  wtm_at "W"
  refine Xx (λp:Str×Nat=>.tup [.str p.1,.ref 2 p.2]) ts (aeP DC) (λa:Option PV×Option PV=>[some (.ref 1 C.jW),some (.ref 0 B.bk),some (.ref 1 md),some (.tup [me,.ref 2 sl]),some (.tup [value,.ref 2 rl]),some me,some value,some (.str C.name),some .none,some .none,some (.ref 2 jc),some (.ref 2 je),some (.ref 2 jf),some (.ref 2 jd),none,some (.ref 2 Bg.ju),none,none,none,none,none,none,none,none,none,none,none,a.1,a.2]) (λd J jt=>Ke G8 jt/\jt.get 2 G8.ju=some (.list (d.map λJ=>.str qw))) (_,_) rB G9 rfl rfl (λJ J J I=>I.1.get _ _ _ G9) ⟨(Ke.refl _).add _,by have:=AH.jT G8 (.list []);rw [rB] at this;exact this⟩ (λd x t a jt hd I GG qG=>?_) (λa Hf I=>?_)
  ·refine jP I λSC h5=>?_
   refine ⟨_,rfl,Xv ?_ (by dsimp only [qR,qS,dW,bq,bW,bN])⟩;intro _ _
   have dl:d.length<ts.length:=by rw [hd];simp
   wtm_at "W"
   refine (ams (FB.ke SC) (by wtm_at "o")).same ?_
   refine ⟨_,?_,qG (_,_) _ ⟨SC.set rB.symm (ak _) _,AH.lG h5⟩⟩
   refine (sy h5).trans ?_
   rw [mh (by rw [aC];exact aeQ DC dl),cond_true,aV]
   rfl
  refine jP I λSC h5=>?_
  have rC:Hf.reg=2:=SC.reg.trans rB
  have anm:(ts.map λJ=>(.str qw:PV))=[.str qw,.str qw,.str qw]:=by
   obtain ⟨x,y,z,rfl⟩:∃x y z,ts=[x,y,z]:=by
    match ts,DC with
   |[x,y,z],_=>exact ⟨x,y,z,rfl⟩
   rfl
  rw [anm] at h5
  wtm_at "W"
  refine mC (Y6 (AH.jT _ _)) ?_
  have lt5:=AH.qi h5 rC.symm
  refine jY (f:=nh .NotEq _ _ _) (v:=false) ?_ ?_
  ·show (uR _ _ _).map _=_
   rw [Nr (b:=true) (AH.lz (AH.lz h5)) (AH.jT _ _) rfl (by rw [AH.nU];exact aeR lt5) (by kernel_rfl)]
   rfl
  have KC:=((Za.trans SC).add (.list [.str qw])).add (.list [.str qw,.str qw,.str qw])
  revert KC
  generalize (Hf.add (.list [.str qw])).add (.list [.str qw,.str qw,.str qw])=ηD
  intro KC
  have FD:=F6.ke KC
  have NJ:∀g o,oj C none (C.line hr)=some (g,o)->o∈C.ns/\(g=kU\/g=mq\/g=nQ):=λg' o' h=>by
   rw [hf] at h
   exact xn h
  wtm_at "W"
  refine (X5 O FD zy sE NJ (by wtm_at "o")).pM λv DH h1 DI DJ=>?_
  rw [hf] at h1
  subst h1
  wtm_at "W"
  refine (GC O DI zy (by wtm_at "o")).pM λv ano h1 NK NM=>?_
  rw [hf] at h1
  subst h1
  wtm_at "W"
  refine (GC O NK zy (by wtm_at "o")).pM λv DK h1 Hg qV=>?_
  rw [hf] at h1
  subst h1
  dsimp only
  wtm_at "W"
  refine mC (Y6 (AH.jT _ _)) ?_
  refine jY (f:=nh .Eq _ _ _) (Nr (b:=true) (AH.lz (AH.lz (AH.jT _ _))) (AH.jT _ _) rfl (by rw [AH.nU,AH.nU];exact aeS) rfl) ?_
  exact jO ⟨rfl,Hg.ke ((((Ke.refl DK).add _).add _).add _),((((S6.trans KC.kR).trans DJ).trans NM).trans qV).trans ((((Ke.refl DK).add _).add _).add _).kR⟩
|some p=>
  obtain ⟨g,o⟩:=p
  rw [hf] at G5 yi
  refine o6 (G5) λs hE=>?_
  have yi:fv=.tup [.str g,.str o]:=yi
  subst yi
  have Hh:=hE.ke (λr i c fs J e=>ND.get _ _ _ e)
  obtain ⟨hg,ho,zv,anp⟩:=Y4 C (λg=>g=kU\/g=mq\/g=nQ) (λo=>o∈C.ns/\Dm o=rF C o/\∃l u,C.fix md=some (.sd l u)/\jv l o=some (C.m o)) (C.line hr) none (λn hn s g o h=>⟨A.anb n (lm n hn) s g o h,(O.o8 n (lm n hn) s g o h).1,A.cnt n (lm n hn) s g o h,by obtain ⟨l,u,h1,h2⟩:=A.mods;exact ⟨l,u,h1,h2 n (lm n hn) s g o h⟩⟩) (λg h=>nomatch h) g o hf
  have Nq:sq g g=true:=kj.mpr rfl
  have e1:=Hh.ya
  have e2:=Hh.sight
  have e3:=Hh.owner
  have n1:=F6.number ho
  refine oH (anp) λml mu pQ tP=>?_
  have i1:jR tab (.ref 1 md) (.str o) oF=some (C.m o):=lV (F6.fix _ _ pQ) tP
  have i2:jR tab (.tup [me,.ref 2 sl]) (.int 1) oF=some (.ref 2 sl):=rfl
  have main:∀mK,Ke oF mK->WS (300 - (19+0+1)) Nt 0 [some (.ref 1 C.jW),some (.ref 0 B.bk),some (.ref 1 md),some (.tup [me,.ref 2 sl]),some (.tup [value,.ref 2 rl]),some me,some value,some (.str C.name),some (.tup [.str g,.str o]),some ev,some (.ref 2 jc),some (.ref 2 je),some (.ref 2 jf),some (.ref 2 jd),none,none,some (.str g),some (.str o),some (.bool (sq g kU)),some (.bool (sq g kU || (sq g mq && sends C hs o))),none,none,none,none,none,none,none,none,none] mK (nK λv jt=>v=.bool true/\WF C jt/\kg η jt):=by
   intro mK K7
   have F7:=F6.ke K7
   have r7:=F7.reg
   unfold Nt xU
   dsimp only [kW]
   wtm_at "W"
   refine DG (AH.lz (AH.jT _ _)) (AH.jT _ _) (by simp) λwO j K8 Zb J=>?_
   have Zc:=(((Ke.refl mK).add _).add _).trans K8
   have F8:=F7.ke Zc
   have S8:kg oF wO:=(K7.trans Zc).kR
   have r8:=F8.reg
   simp only [AH.oh,r7] at Zb ⊢
   have hE8:=Hh.ke S8.inst
   have anq:=fen.kR S8
   have anr:=ffr.kR S8
   have ans:=yh S8 (dc rfl) NC
   have S08:=S6.trans S8
   clear K8
   wtm_at "W"
   refine AX (am5 (.ref 2 je) (.ref 2 jf)) (G3 g (sends C hs o)) (by unfold G3;simp) (λa:Option PV×Option PV×Option PV×Option PV×Option PV×Option PV=>[some (.ref 1 C.jW),some (.ref 0 B.bk),some (.ref 1 md),some (.tup [me,.ref 2 sl]),some (.tup [value,.ref 2 rl]),some me,some value,some (.str C.name),some (.tup [.str g,.str o]),some ev,some (.ref 2 jc),some (.ref 2 je),some (.ref 2 jf),some (.ref 2 jd),a.1,none,some (.str g),some (.str o),some (.bool (sq g kU)),some (.bool (sq g kU || (sq g mq && sends C hs o))),some (.ref 2 j),a.2.1,a.2.2.1,a.2.2.2.1,a.2.2.2.2.1,a.2.2.2.2.2,none,none,none]) (λd J jt=>WF C jt/\kg wO jt) (_,_,_,_,_,_) rfl (λJ J J I=>I.2.get _ _ _ (dc rfl) Zb) ⟨F8,kg.refl _⟩ (λd w t a jt hd I GG qG=>?_) (λa Bh I=>?_)
   ·refine jP I λF9 S9=>?_
    refine ⟨_,rfl,?_⟩
    simp only [qR,qS]
    have hw:=anf hg (sends C hs o) w (by rw [hd];simp)
    refine am7 (w:=w) (Be:=.ref 2 jd) O F9 (dc rfl) hw hg ho (hE8.ke S9.inst) sE (anq.kR S9) (anr.kR S9) rfl rfl rfl (yh S9 (dc rfl) ans) ⟨_,rfl⟩ (λDH x DI DJ=>?_) rfl
    exact qG (_,_,_,_,_,_) _ ⟨DI,S9.trans DJ⟩
   ·intro _
    refine jP I λF9 S9=>?_
    have NJ:∀g o,oj C none (C.line hr)=some (g,o)->o∈C.ns/\(g=kU\/g=mq\/g=nQ):=λg' o' h=>by
     rw [hf] at h
     refine xp h λLz LB=>?_
     try clear h
     obtain rfl:=Lz
     obtain rfl:=LB
     exact ⟨ho,hg⟩
    wtm_at "W"
    refine (X5 O F9 zy sE NJ (by wtm_at "o")).pM λv DH h1 DI DJ=>?_
    rw [hf] at h1
    subst h1
    wtm_at "W"
    refine (GC O DI zy (by wtm_at "o")).pM λv ano h1 NK NM=>?_
    rw [hf] at h1
    subst h1
    wtm_at "W"
    refine (GC O NK zy (by wtm_at "o")).pM λv DK h1 Hg qV=>?_
    rw [hf] at h1
    subst h1
    dsimp only
    wtm_at "W"
    have r12:=Hg.reg
    refine jY (f:=nh .Eq _ _ _) (Nr (b:=true) (AH.lz (AH.jT _ _)) (AH.jT _ _) rfl (by rw [AH.nU];exact aeT) ?_) ?_
    ·generalize (sq g kU || (sq g mq && sends C hs o))=x
     generalize sq g kU=y
     cases x<;>cases y<;>rfl
    refine jO ⟨rfl,(Hg.ke ((((Ke.refl DK).add _).add _))),(((((S08.trans S9).trans DJ).trans NM).trans qV).trans (((Ke.refl DK).add _).add _).kR)⟩
  wtm_at "W"
  rw [Nq]
  wtm_at "W"
  rw [decide_eq_true (rfl:C.num o=C.num o)]
  wtm_at "W"
  rcases hg with rfl|rfl|rfl
  ·wtm_at "W"
   exact main _ (Ke.refl _)
  ·wtm_at "W"
   refine (amt (by wtm_at "o")).ny λmK K7 h2=>?_
   refine jY (uH h2 (by decide +kernel)) ?_
   wtm_at "W"
   refine oE (rE h2 (ane o)) ?_
   have i3:jR tab (.tup [me,.ref 2 sl]) (.int 1) mK=some (.ref 2 sl):=rfl
   wtm_at "W"
   refine jY (zx (K7.get _ _ _ anl) _) ?_
   rw [zv]
   wtm_at "W"
   exact main _ K7
  ·wtm_at "W"
   exact main _ (Ke.refl _)
end
section
theorem WF.dr(D:Dr η jt)(w:lO η c)(F:WF C η):WF C jt where
 reg:=D.reg.trans F.reg
 mod n hn:=by obtain ⟨fs,a,b⟩:=F.mod n hn;exact ⟨fs,by rw [D.get _ _ (Ii)];exact a,b.ke λi o e=>by rw [D.get _ _ (Ij)];exact e⟩
 mr n hn:=by
  have h:=F.mr n hn
  unfold uF at h ⊢
  have hm:jt.get 1 (C.kX n)=η.get 1 (C.kX n):=D.get _ _ (Ii)
  have he:∀v s g o,lI C η v s g o->lI C jt v s g o:=by
   rintro v s g o ⟨r,i,c,b,e,hg,hc,hb⟩
   refine Qy r i c b e ?_ hc hb
   by_cases Zd:r=0/\i=1
   ·refine jP (Zd) λpJ wF=>?_
    obtain rfl:=pJ
    obtain rfl:=wF
    refine rH (w.at_) λx y z h J=>?_
    rw [h] at hg
    cases hg
   ·rw [D.get _ _ Zd];exact hg
  split at h
  ·rw [hm];exact h
  ·rcases h with ⟨l,u,v,h1,h2,h3⟩|⟨h1,h2⟩
   ·exact .inl ⟨l,u,v,by rw [hm];exact h1,h2,he _ _ _ _ h3⟩
   ·exact .inr ⟨h1,by rw [hm];exact h2⟩
 fix i o e:=by rw [D.get _ _ (Ii)];exact F.fix i o e
theorem BW.dr(G:tQ B)(D:Dr η jt)(b:BW B η):BW B jt:=λi o e=>by
 rw [D.get]
 ·exact b i o e
 ·intro Mu
  refine jP (Mu) λJ qq8=>?_
  obtain rfl:=qq8
  rw [G.well] at e
  exact xn e
theorem lO.kR(S:kg η jt)(w:lO η c):lO jt c:=by
 refine rH (w.at_) λg b n h r=>?_
 exact ⟨g,b,n,S.get _ _ _ (dc rfl) h,r⟩
theorem lO.le(w:lO η c)(h:c<=c'):lO η c':=by
 refine Qx (w.at_) λg b n h1 h2 h3 h4 h5=>?_
 exact ⟨g,b,n,h1,h2,h3,h4,by exact aaZ h h5⟩
def tT(B:Bk)(x:Str):Str:=(((jv yc x).getD []).filter λy=>(B.above y).isSome).headD kT
structure yj(C:Cfg)(B:Bk)(md ac:Nat):Prop where
 O:lS C
 G:tQ B
 H:CB C B
 A:Y5 C md
 act:∃l u,C.fix ac=some (.sd l u)/\∀x∈mO,∃v,jv l x=some v/\Val C v (tT B x)
 hd:∀x∈mO,tT B x∈C.ns/\2<=(C.line (tT B x)).length/\((jv yc x).getD []).filter (λy=>(B.above y).isSome)≠[]
structure Run(C:Cfg)(B:Bk)(c:Nat)(η:AH):Prop where
 F:WF C η
 b:BW B η
 w:lO η c
theorem Run.ke(K:Ke η jt)(R:Run C B c η):Run C B c jt:=⟨R.F.ke K,R.b.ke K,R.w.kR K.kR⟩
def Bj(C:Cfg)(B:Bk)(η:AH)(o:AO)(d:List Str):Prop:=(d=[]/\o=.jE)\/∃t u,o=.sd t u/\t.length<=d.length/\∀x∈d,∃j,jv t x=some (.ref 2 j)/\η.get 2 j=some (.list (jM (C.line (tT B x))))
section
variable{md ac:Nat}
theorem ant(G:tQ B)(b:BW B η)(x:Str):nh .In (.str x) (.ref 0 B.ab) η=some (B.above x).isSome:=by
 refine oH (G.above) λd u h h1=>?_
 show sN (.str x) (.ref 0 B.ab) η=_
 show (η.get 0 B.ab).bind _=_
 rw [b _ _ h]
 show some (jv d x).isSome=_
 rw [h1 x]
 cases B.above x<;>rfl
theorem w_head(R:yj C B md ac)(b:BW B η)(hr:η.reg=2)(hk:20<=k){x:Str}(hx:x∈mO){Q:PV->AH->Prop}{Ze DF p16 G0:Option PV}(q:∀jt,Ke η jt->Q (.str (tT B x)) jt):
  W k (.item (.ve (.v 17) (.one 17) (.item (.call (.st (.ref 1093)) .nil) (.v 9)) (.cons (.cmp .In (.v 17) (.item (.v 3) (.k (.str pW)))) .nil) [3] [16,17]) (.k (.int (0)))) [p0,p1,p2,some (.ref 0 B.bk),p4,p5,p6,p7,p8,some (.str x),ry,rz,sr,uD,Ze,DF,p16,G0] η Q:=by
 wtm_at "s"
 refine su ?_
 wtm_at "W"
 refine (amy (by wtm_at "o")).mono λv jB ⟨K1,j,d,h1,h2,T⟩=>?_
 subst h1
 rw [hr] at h2 T ⊢
 obtain ⟨i,l,t1,t2,t3⟩:∃i l,jv yc x=some l/\jv d x=some (.ref 2 i)/\jB.get 2 i=some (.list (jM l)):=by
  rcases T x with ⟨_,h⟩|⟨i,l,a,b,c⟩
  ·exfalso
   unfold mO at hx
   simp only [aB,aU,or_false] at hx
   rcases hx with rfl|rfl|rfl|rfl|rfl|rfl|rfl|rfl|rfl|rfl|rfl<;>revert h<;>decide +kernel
  ·exact yx i l a b c
 have i1:jR tab (.ref 2 j) (.str x) jB=some (.ref 2 i):=lV h2 t2
 wtm_at "W"
 refine ⟨_,tE t3,rfl,?_⟩
 rw [tF t3,m6]
 have r1:jB.reg=2:=K1.reg.trans hr
 have Hi:l.length<=3:=by
  unfold mO at hx
  simp only [aB,aU,or_false] at hx
  have:∀y∈mO,((jv yc y).getD []).length<=3:=by decide +kernel
  have:=this x (by unfold mO;simpa using hx)
  rw [t1] at this
  exact this
 have mQ:=(R.hd x hx).2.2
 rw [t1] at mQ
 have hhd:tT B x=(l.filter λy=>(B.above y).isSome).headD kT:=by unfold tT;rw [t1];rfl
 refine uG .str l (aa0 Hi) (λu:Option PV=>[p0,p1,p2,some (.ref 0 B.bk),p4,p5,p6,p7,p8,some (.str x),ry,rz,sr,uD,Ze,DF,none,u]) (λd J jt=>Ke jB jt/\jt.get 2 jB.ju=some (.list (jM (d.filter λy=>(B.above y).isSome)))) _ rfl (λd J jt h=>h.1.get _ _ _ t3) ⟨(Ke.refl _).add _,by have:=AH.jT jB (.list []);rw [r1] at this;exact this⟩ ?_ ?_
 ·intro dn y t jk jt hd I GG qG
  refine jP I λK2 h3=>?_
  refine ⟨_,rfl,?_⟩
  have b2:=(b.ke K1).ke K2
  have i2:=Yb R.G b2
  have dl:dn.length<l.length:=by rw [hd];simp
  wtm_at "W"
  refine jY (ant R.G b2 y) ?_
  induction ha:(B.above y).isSome using Bool.casesOn with
 |false=>
   refine ⟨false,rfl,λh=>(nomatch h),λJ=>⟨λh=>(nomatch h),λJ=>qG _ _ ⟨K2,?_⟩⟩⟩
   rw [h3,b8]
   simp [ha]
 |true=>
   refine ⟨true,rfl,λJ=>?_,λh=>nomatch h⟩
   wtm_at "s"
   refine ⟨λJ=>?_,λh=>nomatch h⟩
   wtm_at "W"
   rw [r1]
   refine ⟨_,?_,qG _ _ ⟨K2.set r1.symm (ak _) _,AH.lG h3⟩⟩
   refine (sy h3).trans ?_
   have:=bV (λy=>(B.above y).isSome) dn
   rw [mh (by rw [m6];exact aa1 Hi dl this),cond_true,b8,tR]
   simp [ha,jM]
 ·intro y jA I
  refine jP I λK2 h3=>?_
  have i3:jR tab (.ref 2 jB.ju) (.int 0) jA=some (.str (tT B x)):=by
   refine item_str (j:=0) h3 (dc rfl) ?_
   rw [hhd]
   induction hl:l.filter (λy=>(B.above y).isSome) using List.casesOn with
  |nil=>exact absurd hl mQ
  |cons a r=>rfl
  rw [r1]
  wtm_at "W"
  exact q _ (K1.trans K2)
end
end
section
def Kp(η jt:AH):Prop:=jt.reg=η.reg/\∀i o,η.get 2 i=some o->jt.get 2 i=some o
theorem Kp.ke(K:Ke η jt):Kp η jt:=⟨K.reg,λi o e=>K.get _ _ _ e⟩
theorem Kp.kR(K:kg η jt):Kp η jt:=⟨K.reg,λi o e=>K.get _ _ _ (dc rfl) e⟩
theorem Kp.dr(K:Dr η jt):Kp η jt:=⟨K.reg,λi o e=>by rw [K.get _ _ (Ij)];exact e⟩
theorem Kp.trans{a b c:AH}(h:Kp a b)(k:Kp b c):Kp a c:=⟨k.1.trans h.1,λi o e=>k.2 i o (h.2 i o e)⟩
theorem Bj.mono{d:List Str}(h:∀i l,η.get 2 i=some (.list l)->jt.get 2 i=some (.list l))(L:Bj C B η o d):Bj C B jt o d:=by
 rcases L with h1|⟨t,u,h1,h2,h3⟩
 ·exact .inl h1
 ·refine .inr ⟨t,u,h1,h2,λx hx=>?_⟩
  refine jZ (h3 x hx) λj a b=>?_
  exact ⟨j,a,h _ _ b⟩
section
variable{md ac:Nat}
theorem Run.dr(R:yj C B md ac)(D:Dr η jt)(r:Run C B c η)(w:lO jt c'):Run C B c' jt:=⟨r.F.dr D r.w,r.b.dr R.G D,w⟩
theorem Zf(R:yj C B md ac)(r:Run C B c η)(hc:c<1000)(hk:20<=k){m:Nat}{M:List Str}(he:look e 13=some (.ref 2 m))(he1:look e 1=some (.ref 0 1))(hM:η.get 2 m=some (.list (jM M)))(mQ:M≠[])(hl:M.length<=60000){Q:PV->AH->Prop}(q:∀x jt,x∈M->Run C B (c+1) jt->Kp η jt->Q (.str x) jt):
  W k (.item (.v 13) (.call (.st (.ref 1114)) (.cons (.v 1) (.cons (.call (.st (.builtin "len")) (.cons (.v 13) .nil)) .nil)))) e η Q:=by
 have J9:0<M.length:=List.length_pos_iff.mpr mQ
 wtm_at "s"
 refine qh he ?_
 wtm_at "s";wtm_at "s"
 refine qh he1 ?_
 wtm_at "s";wtm_at "s";wtm_at "s"
 refine qh he ?_
 wtm_at "s"
 refine jw.nB (by wtm_at "o") (by intro _ h;cases h) (GW hM (by rw [m6];exact D0 hl)) ?_
 rw [m6]
 wtm_at "s"
 refine (sF r.w (PF hc) (show (0:Int)<(M.length:Int) by exact BL J9) (Pg hl) (by wtm_at "o")).mono λv jt ⟨⟨d,h1,h2,h3⟩,w',D⟩=>?_
 subst h1
 obtain ⟨n,rfl⟩:∃n:Nat,d=n:=⟨d.toNat,by exact wW h2⟩
 have hn:n<M.length:=Il h3
 have NP:jt.get 2 m=some (.list (jM M)):=by rw [D.get _ _ (Ij)];exact hM
 refine jY (item_str NP (Ph hl h3) (aR hn)) ?_
 exact q _ jt (dm hn) (r.dr R D w') (.dr D)
def zz:jF:=kW 4 qg
theorem anu(R:yj C B md ac)(r:Run C B c η)(hk:325<=k){Q:Fl->Sl->AH->Prop}
  (q:∀jt L a9 mZ,Run C B c jt->jt.reg=2->(∃o,jt.get 2 L=some o/\Bj C B jt o mO)->WS k (kW 6 qg) 0 [some sc,some (.ref 0 1),some (.bool tiny),some (.ref 0 B.bk),some (.ref 1 C.jW),some (.ref 1 md),some (.ref 1 ac),some (.ref 2 L),some (.str B.first),a9,mZ,none,none,none,none,none,none,none] jt Q) :
  WS k zz 0 [some sc,some (.ref 0 1),some (.bool tiny),some (.ref 0 B.bk),some (.ref 1 C.jW),some (.ref 1 md),some (.ref 1 ac),none,none,none,none,none,none,none,none,none,none,none] η Q:=by
 have mR:=r.F.reg
 rw [show zz=cut 2 zz (kW 6 qg) from rfl]
 generalize qO:kW 6 qg=rest at q ⊢
 unfold zz qg
 dsimp only [cut,kW]
 have K1:Ke η (η.add .jE):=(Ke.refl η).add _
 have f1:=amF R.G (r.b.ke K1)
 repeat' wtm_at "u"
 rw [mR]
 wtm_at "W"
 refine (Dp (by wtm_at "o")).ny λjA K2 h2=>?_
 have K12:=K1.trans K2
 have d2:=K2.get _ _ _ (AH.jT η .jE)
 have n2:=K2.ju
 rw [AH.nU] at n2
 simp only [AH.oh,AH.nU,mR] at h2 d2 ⊢
 refine AX .str mO (dc rfl) (λx:Jk=>[some sc,some (.ref 0 1),some (.bool tiny),some (.ref 0 B.bk),some (.ref 1 C.jW),some (.ref 1 md),some (.ref 1 ac),some (.ref 2 η.ju),some (.str B.first),x 0,x 1,none,none,none,none,none,none,none]) (λd J jt=>Ke η jt/\jt.get 2 (η.ju+1)=some (.list (jM mO))/\∃o,jt.get 2 η.ju=some o/\Bj C B jt o d) (λi=>[_,_].getD i none) rfl (λd x jt I=>I.2.1) ⟨K12,h2,_,d2,.inl ⟨rfl,rfl⟩⟩ ?_ ?_
 ·intro d x t jk jt hd I GG qG
  refine pU I λK3 h3 I=>jZ I λo h4 LD=>?_
  refine ⟨_,rfl,?_⟩
  simp only [qR,qS]
  have hx:x∈mO:=by rw [hd];simp
  have nV:d.length<11:=by have:mO.length=11:=rfl;rw [hd] at this;simp at this;exact PJ this
  have r3:=r.ke K3
  have anv:=r3.F.reg
  wtm_at "s";wtm_at "s"
  refine w_head R r3.b anv (Ic hk) hx λjV K4=>?_
  refine pU (R.hd x hx) λhh1 hh2 J=>?_
  have r4:=r3.ke K4
  wtm_at "W"
  refine (amX R.O R.G R.H r4.b hh1 hh2 (by wtm_at "o")).Xf λj kJ K5 h5=>?_
  have anw:=r4.F.reg
  rw [anw] at h5 ⊢
  have Hj:=K5.get _ _ _ (K4.get _ _ _ h4)
  have LD5:=LD.mono (λi l h=>K5.get _ _ _ (K4.get _ _ _ h))
  wtm_at "W"
  have anx:∃o',nv (.ref 2 η.ju) (.str x) (.ref 2 j) kJ=some (kJ.set 2 η.ju o')/\Bj C B (kJ.set 2 η.ju o') o' (d++[x])/\(kJ.set 2 η.ju o').get 2 (η.ju+1)=some (.list (jM mO)):=by
   have keep:∀o' i l,kJ.get 2 i=some (.list l)->(kJ.set 2 η.ju o').get 2 i=some (.list l):=λo' i l h=>by
    rw [AH.ka]
    ·exact h
    ·intro zo
     refine jP (zo) λJ De=>?_
     obtain rfl:=De
     rw [Hj] at h
     rcases LD with ⟨_,rfl⟩|⟨t,u,rfl,_⟩<;>cases h
   rcases LD5 with ⟨rfl,rfl⟩|⟨t,u,rfl,ht,h6⟩
   ·refine ⟨_,AI Hj,.inr ⟨_,_,rfl,by simp,λy hy=>?_⟩,keep _ _ _ (K5.get _ _ _ (K4.get _ _ _ h3))⟩
    have:y=x:=by simpa using hy
    subst this
    exact ⟨j,Dl,keep _ _ _ h5⟩
   ·refine ⟨_,zh Hj (PK nV ht),.inr ⟨_,_,rfl,?_,λy hy=>?_⟩,keep _ _ _ (K5.get _ _ _ (K4.get _ _ _ h3))⟩
    ·rw [ER]
     split<;>simp<;>(first|exact zI ht|assumption)
    ·rw [v5]
     by_cases e:y=x
     ·subst e
      exact ⟨j,if_pos rfl,keep _ _ _ h5⟩
     ·have hy':y∈d:=by
       rcases aH.mp hy with h|h
       ·exact h
       ·exact absurd (aJ.mp h) e
      refine jZ (h6 y hy') λj' a b=>?_
      exact ⟨j',by rw [if_neg e];exact a,keep _ _ _ b⟩
  refine vV (anx) λo' p1 p2 p3=>?_
  refine jY p1 ?_
  wtm_at "W"
  exact qG (λi=>([some (.str x),some (.str (tT B x))]:Sl).getD i none) _ ⟨((K3.trans K4).trans K5).set mR.symm (ak _) _,p3,o',AH.lG Hj,p2⟩
 ·intro x jt I
  refine pU I λK3 h3 h4=>?_
  have r3:=r.ke K3
  exact q jt _ _ _ r3 r3.F.reg h4
end
end
section
structure Lay(C:Cfg)(B:Bk)(L nr:Nat)(near:List Str)(η:AH):Prop where
 lines:∃t u,η.get 2 L=some (.sd t u)/\∀x∈mO,∃j,jv t x=some (.ref 2 j)/\η.get 2 j=some (.list (jM (C.line (tT B x))))
 near:η.get 2 nr=some (.list (jM near))
theorem Lay.kp{L:Nat}{near:List Str}(K:Kp η jt)(l:Lay C B L nr near η):Lay C B L nr near jt:=by
 refine oH (l.lines) λt u h1 h2=>?_
 exact ⟨⟨t,u,K.2 _ _ h1,λx hx=>by obtain ⟨j,a,b⟩:=h2 x hx;exact ⟨j,a,K.2 _ _ b⟩⟩,K.2 _ _ l.near⟩
theorem anz:∀x l,jv A6 x=some l->(∀y∈l,y∈mO)/\l≠[]/\l.length<=4:=by
 intro x l h
 have:∀p∈A6,(∀y∈p.2,y∈mO)/\p.2≠[]/\p.2.length<=4:=by decide +kernel
 have hm:(x,l)∈A6:=by
  revert h
  generalize A6=t
  induction t with
 |nil=>intro h;cases h
 |cons p r ih=>
   obtain ⟨y,v⟩:=p
   intro h
   unfold jv at h
   induction hq:sq y x using Bool.casesOn with
  |true=>
    rw [hq] at h
    refine xs h λlX=>?_
    try clear h
    obtain rfl:=lX
    rw [kj.mp hq]
    exact bL
  |false=>
    rw [hq] at h
    exact bu _ (ih h)
 exact this _ hm
def NQ:jF:=match kW 7 qg with
|.cons (.for _ _ _ b) _=>b
|_=>.nil
section
variable{md ac:Nat}
theorem anA(R:yj C B md ac)(r:Run C B c η)(hc:c<900)(hk:325<=k){L:Nat}{near:List Str}(l:Lay C B L nr near η)(NS:∀x∈near,x∈mO)(Bl:near.length<=11){n:Nat}{sc:Option PV}{Q:Fl->Sl->AH->Prop}
  (q:∀jt oB o5 pL,Run C B (c+2) jt->Kp η jt->Lay C B L nr near jt->Q .next [sc,some (.ref 0 1),some (.bool tiny),some (.ref 0 B.bk),some (.ref 1 C.jW),some (.ref 1 md),some (.ref 1 ac),some (.ref 2 L),some (.str B.first),a9,mZ,some (.ref 2 nr),some (.int n),oB,o5,pL,none,none] jt) :
  WS k NQ 0 [sc,some (.ref 0 1),some (.bool tiny),some (.ref 0 B.bk),some (.ref 1 C.jW),some (.ref 1 md),some (.ref 1 ac),some (.ref 2 L),some (.str B.first),a9,mZ,some (.ref 2 nr),some (.int n),oB,o5,pL,none,none] η Q:=by
 have mR:=r.F.reg
 unfold NQ qg
 dsimp only [kW]
 have Zg:∀e:AH,qZ .Mod (.int n) (.int 2) e=some (.int (cI n 2),e):=λe=>rfl
 have Zh:∀(R':PV->AH->Prop) (e:Sl),look e 11=some (.ref 2 nr)->look e 12=some (.int n)->(∀jt m M,Ke η jt->jt.get 2 m=some (.list (jM M))->(∀x∈M,x∈mO)->M≠[]->M.length<=11->R' (.ref 2 m) jt)->W k (.sX (.wA true (.cmp .NotEq (.v 11) (.list .nil)) (.cmp .Eq (.bin .Mod (.v 12) (.k (.int (2)))) (.k (.int (0))))) (.v 11) (.call (.st (.ref 1086)) .nil)) e η R':=by
  intro R' e Zi Am q
  have K1:Ke η (η.add (.list [])):=(Ke.refl η).add _
  have who:∀jB,Ke η jB->jw k (.st (.ref 1086)) [] jB R':=λjB K=>by
   refine (Dp (by wtm_at "o")).ny λjA K2 h2=>?_
   have:jB.reg=2:=K.reg.trans mR
   rw [this] at h2 ⊢
   exact q _ _ mO (K.trans K2) h2 (λx h=>h) (dc rfl) (dc rfl)
  wtm_at "s";wtm_at "s";wtm_at "s"
  refine qh Zi ?_
  wtm_at "W"
  refine jY (f:=nh .NotEq _ _ _) (v:=!decide (jM near=[])) ?_ ?_
  ·have:=eq_nil (AH.lz (o:=.list []) l.near) (AH.jT η (.list [])) (by rw [mR];have:=AH.qi l.near mR.symm;exact O3 this)
   have this:uR (.ref 2 nr) (.ref η.reg η.ju) (η.add (.list []))=_:=this
   show (uR (.ref 2 nr) (.ref η.reg η.ju) (η.add (.list []))).map _=_
   rw [this]
   rfl
  by_cases NT:near=[]
  ·rw [NT]
   wtm_at "W"
   exact who _ K1
  ·have:decide (jM near=[])=false:=decide_eq_false (by unfold jM;simpa using NT)
   rw [this]
   wtm_at "s";wtm_at "s";wtm_at "s"
   refine qh Am ?_
   wtm_at "W"
   refine mC (Zg _) ?_
   wtm_at "W"
   refine ⟨decide (cI n 2=0),rfl,λJ=>qh Zi (q _ _ near K1 (K1.get _ _ _ l.near) NS NT Bl),λJ=>?_⟩
   wtm_at "W"
   exact who _ K1
 have Zj:∀(jB:AH) (R':PV->AH->Prop) (e:Sl),jB.reg=2->look e 8=some (.str B.first)->look e 12=some (.int n)->(∀jt m M,Ke jB jt->jt.get 2 m=some (.list (jM M))->(∀x∈M,x∈mO)->M≠[]->M.length<=11->R' (.ref 2 m) jt)->W k (.sX (.cmp .Eq (.bin .Mod (.v 12) (.k (.int (2)))) (.k (.int (0)))) (.mr (.call (.st (.ref 1100)) .nil) oq (.cons (.v 8) (.cons (.call (.st (.ref 1086)) .nil) .nil))) (.call (.st (.ref 1086)) .nil)) e jB R':=by
  intro jB R' e h1 e8 Am q
  wtm_at "s";wtm_at "s";wtm_at "s"
  refine qh Am ?_
  wtm_at "W"
  refine mC (Zg _) ?_
  wtm_at "W"
  refine ⟨decide (cI n 2=0),rfl,λJ=>?_,λJ=>?_⟩
  ·wtm_at "W"
   refine (amz (by wtm_at "o")).mono λv jA ⟨K2,j,d,e2,h2,T⟩=>?_
   subst e2
   rw [h1] at h2 T ⊢
   refine jY (uH h2 (by decide +kernel)) ?_
   wtm_at "s"
   refine qh e8 ?_
   wtm_at "W"
   refine (Dp (by wtm_at "o")).ny λjD K3 h3=>?_
   have r2:jA.reg=2:=K2.reg.trans h1
   rw [r2] at h3 ⊢
   wtm_at "W"
   rcases T B.first with ⟨t1,_⟩|⟨i,l,t1,t2,t3⟩
   ·exact oE (rE (K3.get _ _ _ h2) (Dk t1)) (q _ _ mO (K2.trans K3) h3 (λx h=>h) (dc rfl) (dc rfl))
   ·refine pU (anz _ _ t1) λs1 s2 s3=>?_
    exact oE (rE (K3.get _ _ _ h2) (Dj t2)) (q _ _ l (K2.trans K3) (K3.get _ _ _ t3) s1 s2 (aaB s3))
  ·wtm_at "W"
   refine (Dp (by wtm_at "o")).ny λjA K2 h2=>?_
   rw [h1] at h2 ⊢
   exact q _ _ mO K2 h2 (λx h=>h) (dc rfl) (dc rfl)
 wtm_at "s";wtm_at "s"
 refine Zh _ _ rfl rfl λjB m1 M1 K1 g1 s1 n1 l1=>?_
 have r1:=r.ke K1
 have anB:=l.kp (.ke K1)
 clear Zh
 iterate 3 wtm_at "s"
 refine Zf R r1 (aaC hc) (Ic hk) rfl rfl g1 n1 (O4 l1) λx jA hx r2 P2=>?_
 have anC:=anB.kp P2
 have zA:=r2.F.reg
 iterate 3 wtm_at "s"
 refine Zj _ _ _ zA rfl rfl λjD m2 M2 K3 g3 s3 n3 l3=>?_
 have r3:=r2.ke K3
 have anD:=anC.kp (.ke K3)
 clear Zj
 iterate 3 wtm_at "s"
 refine Zf R r3 (aaD hc) (Ic hk) rfl rfl g3 n3 (O4 l3) λy jV hy r4 P4=>?_
 have Hl:=anD.kp P4
 refine oH (Hl.lines) λt u t1 t2=>?_
 have NV:=s1 x hx
 have NW:=s3 y hy
 refine jZ (t2 x NV) λjx tx1 tx2=>?_
 refine jZ (t2 y NW) λjy ty1 ty2=>?_
 refine oH (R.act) λal au ha Zk=>?_
 refine jZ (Zk x NV) λvx vx1 vx2=>?_
 refine jZ (Zk y NW) λvy vy1 vy2=>?_
 have fa:=r4.F.fix _ _ ha
 have ix:jR tab (.ref 1 ac) (.str x) jV=some vx:=lV fa vx1
 have iy:jR tab (.ref 1 ac) (.str y) jV=some vy:=lV fa vy1
 have jx':jR tab (.ref 2 L) (.str x) jV=some (.ref 2 jx):=lV t1 tx1
 have jy':jR tab (.ref 2 L) (.str y) jV=some (.ref 2 jy):=lV t1 ty1
 wtm_at "W"
 refine (anh R.O R.G R.H r4.F r4.b R.A vy2 vx2 (R.hd y NW).1 (R.hd x NV).1 ty2 tx2 (by wtm_at "o")).ny λkJ F5 S5=>?_
 wtm_at "W"
 have r5:Run C B (c+1+1) kJ:=⟨F5,r4.b.kR S5,r4.w.kR S5⟩
 exact q kJ _ _ _ r5 ((((Kp.ke K1).trans P2).trans (.ke K3)).trans P4 |>.trans (.kR S5)) (Hl.kp (.kR S5))
end
end
section
section
variable{md ac:Nat}
theorem Zm(R:yj C B md ac)(hk:325<=k){L:Nat}{near:List Str}(NS:∀x∈near,x∈mO)(Bl:near.length<=11)(hN:N<=10)(r:Run C B c η)(hc:c<=200)(l:Lay C B L nr near η){sc:Option PV}{Q:Fl->Sl->AH->Prop}
  (q:∀e jt,Q .next e jt) :
  ∃S,rU false (.mU 0 N) η=some S/\o9 (λe η Q=>WS k NQ 0 e η Q) (.one 12) S (S.len η+1) 0 [sc,some (.ref 0 1),some (.bool tiny),some (.ref 0 B.bk),some (.ref 1 C.jW),some (.ref 1 md),some (.ref 1 ac),some (.ref 2 L),some (.str B.first),a9,mZ,some (.ref 2 nr),ph,oB,o5,pL,none,none] η Q:=by
 refine Gs (O7 hN) (λx:Jk=>[sc,some (.ref 0 1),some (.bool tiny),some (.ref 0 B.bk),some (.ref 1 C.jW),some (.ref 1 md),some (.ref 1 ac),some (.ref 2 L),some (.str B.first),a9,mZ,some (.ref 2 nr),x 0,x 1,x 2,x 3,none,none]) (λj J jt=>Run C B (c+2*j) jt/\Lay C B L nr near jt) (λi=>[ph,oB,o5,pL].getD i none) rfl ⟨r,l⟩ ?_ λJ J J=>q _ _
 intro j t x jA hlen I G qG
 refine jP I λr2 l2=>?_
 refine ⟨_,rfl,?_⟩
 simp only [qR,qS]
 refine anA R r2 (ab5 hN hc hlen) hk l2 NS Bl λjD oB o5 pL r3 J l3=>?_
 exact qG (λi=>([some (.int j),oB,o5,pL]:Sl).getD i none) _ ⟨r3,l3⟩
theorem anE(R:yj C B md ac)(r:Run C B c η)(hc:c<=100)(hk:325<=k){P:PV->AH->Prop}(q:∀jt,P (.bool true) jt):
  WS k zz 0 [some sc,some (.ref 0 1),some (.bool tiny),some (.ref 0 B.bk),some (.ref 1 C.jW),some (.ref 1 md),some (.ref 1 ac),none,none,none,none,none,none,none,none,none,none,none] η (nK P):=by
 refine anu R r hk λjB L a9 mZ r1 DL ⟨o,h1,LD⟩=>?_
 obtain ⟨t,u,rfl,_,LD⟩:=LD.resolve_left (λh=>absurd h.1 (dc rfl))
 rw [show kW 6 qg=cut 2 (kW 6 qg) (kW 8 qg) from rfl]
 generalize qO:kW 8 qg=rest
 unfold qg
 dsimp only [cut,kW]
 wtm_at "s";wtm_at "s"
 refine su ?_
 wtm_at "W"
 refine (Dp (by wtm_at "o")).ny λjA K2 h3=>?_
 rw [DL] at h3 ⊢
 refine ⟨_,tE h3,rfl,?_⟩
 rw [tF h3,m6]
 have zA:jA.reg=2:=K2.reg.trans DL
 rw [zA]
 let pC:Str->Bool:=λx=>decide (B.first∈C.line (tT B x))
 refine uG .str mO (dc rfl) (λy:Option PV=>[some sc,some (.ref 0 1),some (.bool tiny),some (.ref 0 B.bk),some (.ref 1 C.jW),some (.ref 1 md),some (.ref 1 ac),some (.ref 2 L),some (.str B.first),a9,mZ,none,none,none,none,none,none,y]) (λd J jt=>Ke jA jt/\jt.get 2 jA.ju=some (.list (jM (d.filter pC)))) _ rfl (λd J jt h=>h.1.get _ _ _ h3) ⟨(Ke.refl _).add _,by have:=AH.jT jA (.list []);rw [zA] at this;exact this⟩ ?_ ?_
 ·intro d x t' y jt hd I GG qG
  refine jP I λK3 h4=>?_
  refine ⟨_,rfl,?_⟩
  simp only [qR,qS]
  have hx:x∈mO:=by rw [hd];simp
  obtain ⟨j,a,b⟩:=LD x hx
  have Bm:=K2.trans K3
  have i1:jR tab (.ref 2 L) (.str x) jt=some (.ref 2 j):=lV (Bm.get _ _ _ h1) a
  have nV:d.length<11:=by have:mO.length=11:=rfl;rw [hd] at this;simp at this;exact PJ this
  have qj:=bV pC d
  wtm_at "W"
  refine jY (zx (Bm.get _ _ _ b) B.first) ?_
  induction lU:decide (B.first∈C.line (tT B x)) using Bool.casesOn with
 |false=>
   refine ⟨false,rfl,λh=>(nomatch h),λJ=>⟨λh=>(nomatch h),λJ=>qG _ _ ⟨K3,?_⟩⟩⟩
   have:pC x=false:=lU
   rw [h4,b8]
   simp [this]
 |true=>
   refine ⟨true,rfl,λJ=>?_,λh=>nomatch h⟩
   wtm_at "s"
   refine ⟨λJ=>?_,λh=>nomatch h⟩
   wtm_at "W"
   have:pC x=true:=lU
   refine ⟨_,?_,qG _ _ ⟨K3.set zA.symm (ak _) _,AH.lG h4⟩⟩
   refine (sy h4).trans ?_
   rw [mh (by rw [m6];exact PK nV qj),cond_true,b8,tR]
   simp [this,jM]
 ·intro y jD I
  refine jP I λK3 h4=>?_
  have Bm:=K2.trans K3
  have r3:=r1.ke Bm
  have lay:Lay C B L jA.ju (mO.filter pC) jD:=⟨⟨t,u,Bm.get _ _ _ h1,λx hx=>by obtain ⟨j,a,b⟩:=LD x hx;exact ⟨j,a,Bm.get _ _ _ b⟩⟩,h4⟩
  have mQ:∀x∈mO.filter pC,x∈mO:=λx hx=>(cC.mp hx).1
  have Bl:(mO.filter pC).length<=11:=bV _ _
  have fin:∀e jt,WS k rest 0 e jt (nK P):=λe jt=>by
   rw [<-qO]
   unfold qg
   dsimp only [kW]
   wtm_at "W"
   exact jO (q jt)
  induction tiny using Bool.casesOn with
 |true=>
   wtm_at "W"
   refine jw.nB (by wtm_at "o") (by intro _ h;cases h) (Dy (n:=2) (dc rfl)) ?_
   exact Zm R hk mQ Bl (dc rfl) r3 (ab6 hc) lay λe jt=>fin e jt
 |false=>
   wtm_at "W"
   refine (sF r3.w (ab7 hc) (show (0:Int)<5 by decide) (dc rfl) (by wtm_at "o")).mono λv jV ⟨⟨d,e1,e2,e3⟩,w4,D⟩=>?_
   subst e1
   obtain ⟨n,rfl⟩:∃n:Nat,d=n:=⟨d.toNat,by exact wW e2⟩
   have r4:=r3.dr R D w4
   have Hl:=lay.kp (.dr D)
   refine mC (v:=.int (6+n)) (u:=jV) rfl ?_
   have:(6+(n:Int))=((6+n:Nat):Int):=ab8
   rw [this]
   wtm_at "W"
   refine jw.nB (by wtm_at "o") (by intro _ h;cases h) (Dy (n:=6+n) (ab9 e3)) ?_
   exact Zm R hk mQ Bl (acd e3) r4 (ace hc) Hl λe jt=>fin e jt
end
end
section
theorem anF(ns:List Int)(uz:ns.length<=63)(hK:20<=K):jw K (.st (.ref 1107)) [.fl (ns.map .int)] ⟨[],[]⟩ λv jt=>v=.ref 0 1/\lO jt 0/\jt.reg=0/\jt.ju=2:=by
 refine jw.le (k:=20) ?_ hK
 refine jw.at (as:=[.fl (ns.map .int)]) 0 ali (by wtm_at "o") rfl (by kernel_rfl) ?_;intro _ _
 unfold WW
 wtm_at "W"
 refine mC (v:=.ref 0 0) (u:=(⟨[],[]⟩:AH).add (.list ((ns.take 30).map .int))) ?_ ?_
 ·show cond (decide ((0:Int)<=30) && decide ((30:Int)<65536)) (cond (kY (ns.map PV.int).length) (some (PV.ref 0 0,(⟨[],[]⟩:AH).add (.list ((ns.map PV.int).take 30)))) none) none=_
  rw [aC,mh (PB uz),List.map_take]
  rfl
 have g0:((⟨[],[]⟩:AH).add (.list ((ns.take 30).map .int))).get 0 0=some (.list ((ns.take 30).map .int)):=rfl
 have r0:((⟨[],[]⟩:AH).add (.list ((ns.take 30).map .int))).reg=0:=rfl
 have n0:((⟨[],[]⟩:AH).add (.list ((ns.take 30).map .int))).ju=1:=rfl
 revert g0 r0 n0
 generalize ((⟨[],[]⟩:AH).add (.list ((ns.take 30).map .int)))=jB
 intro g0 r0 n0
 refine AX .int (ns.take 30) (by rw [List.length_take];exact abC) (λy:Int×Int×Option PV=>[some (.fl (ns.map .int)),some (.int y.1),some (.int y.2.1),y.2.2]) (λd y jt=>jt=jB/\0<=y.1/\0<=y.2.1) (0,29,none) rfl (λd y jt I=>I.1▸g0) ⟨rfl,by decide,by decide⟩ ?_ ?_
 ·intro d x t y jt hd I GG qG
  obtain ⟨g,b,u⟩:=y
  refine pU I λe1 hg hb=>?_
  subst e1
  refine ⟨_,rfl,?_⟩
  simp only [qR,qS]
  have mm:∀(x y:Int) (e:AH),0<y->qZ .Mod (.int x) (.int y) e=some (.int (cI x y),e):=λx y e h1=>by
   exact C6 (lA (decide_eq_true h1) rfl)
  have ab:∀e:AH,qF tab (.builtin "abs") [.int x] e=some (.int x.natAbs,e):=λe=>rfl
  wtm_at "W"
  refine mC (v:=.int (b*7727)) (u:=jt) rfl ?_
  wtm_at "W"
  refine mC (v:=.int (x*31)) (u:=jt) rfl ?_
  refine mC (v:=.int (b*7727+x*31)) (u:=jt) rfl ?_
  wtm_at "W"
  refine mC (v:=.int (b*7727+x*31+5)) (u:=jt) rfl ?_
  wtm_at "W"
  refine mC (mm _ _ _ (dc rfl)) ?_
  have zB:=eF (b*7727+x*31+5) (show (0:Int)<1000003 by decide)
  wtm_at "W"
  by_cases Zn:g=0
  ·rw [show decide (g=0)=true from decide_eq_true Zn]
   wtm_at "W"
   refine jw.nB (by wtm_at "o") (by intro _ h;cases h) (ab _) ?_
   wtm_at "W"
   refine mC (v:=.int (10 ^ 18)) (u:=jt) rfl ?_
   refine jY (f:=nh .GtE _ _ _) (v:=decide ((10:Int) ^ 18<=(x.natAbs:Int))) rfl ?_
   refine ⟨_,rfl,λJ=>?_,λJ=>?_⟩
   ·wtm_at "W"
    refine jw.nB (by wtm_at "o") (by intro _ h;cases h) (ab _) ?_
    wtm_at "W"
    refine mC (v:=.int (10 ^ 120)) (u:=jt) rfl ?_
    refine mC (mm _ _ _ (dc rfl)) ?_
    wtm_at "W"
    exact qG (_,_,_) _ ⟨rfl,eF _ (dc rfl),zB⟩
   ·wtm_at "W"
    exact qG (g,_,_) _ ⟨rfl,hg,zB⟩
  ·rw [show decide (g=0)=false from decide_eq_false Zn]
   wtm_at "W"
   exact qG (g,_,_) _ ⟨rfl,hg,zB⟩
 ·intro y jt I
  obtain ⟨g,b,u⟩:=y
  refine pU I λe1 hg hb=>?_
  subst e1
  wtm_at "W"
  have h:=AH.jT jt (.list [.int g,.int b,.int 0])
  rw [r0,n0] at h ⊢
  exact jO ⟨rfl,⟨g,b,0,h,hg,hb,by decide,by decide⟩,r0,by rw [AH.nU,n0]⟩
structure Kb(ex:List Nat)(η jt:AH):Prop where
 reg:jt.reg=η.reg
 ju:η.ju<=jt.ju
 get:∀i o,i∉ex->η.get 0 i=some o->jt.get 0 i=some o
section
variable{ex:List Nat}
theorem Kb.refl:Kb ex η η:=⟨rfl,ak _,λJ J J h=>h⟩
theorem Kb.ke(h:Kb ex η jt)(k:Ke jt jA):Kb ex η jA:=⟨k.reg.trans h.reg,ah h.ju k.ju,λi o hi e=>k.get _ _ _ (h.get i o hi e)⟩
theorem Kb.add(h:Kb ex η jt)(o:AO):Kb ex η (jt.add o):=h.ke ((Ke.refl _).add _)
theorem Kb.dr(h:Kb ex η jt)(D:Dr jt jA)(h1:1∈ex):Kb ex η jA:=⟨D.reg.trans h.reg,by rw [D.ju];exact h.ju,λi o hi e=>by
 rw [D.get _ _ (by rintro ⟨_,rfl⟩;exact hi h1)];exact h.get i o hi e⟩
theorem Kb.set(h:Kb ex η jt)(hi:i∈ex\/(η.reg=0/\η.ju<=i))(o:AO):Kb ex η (jt.set 0 i o):=⟨by rw [AH.zg,h.reg],by rw [AH.AG];exact h.ju,λj o' hj e=>by
 rw [AH.ka]
 ·exact h.get j o' hj e
 ·rintro ⟨_,rfl⟩
  rcases hi with hi|⟨h0,hi⟩
  ·exact hj hi
  ·have:=AH.qi e h0.symm
   exact PC hi this⟩
theorem Kb.trans{Zo:List Nat}(h:Kb ex η jt)(k:Kb Zo jt jA)(hs:∀i∈Zo,i∈ex):Kb ex η jA:=⟨k.reg.trans h.reg,ah h.ju k.ju,λi o hi e=>k.get i o (λq=>hi (hs i q)) (h.get i o hi e)⟩
end
def mS:List (Str×Option Str):=[(m9,none),(kZ,some m9),(lZ,some kZ),(jS,some lZ),(qJ,some kZ),(kG,some qJ),(kH,some kZ),(kO,none),(qI,none),(jU,some kZ),(jK,some jU),(lQ,some jU),(j6,none),(lJ,none)]
def oQ(hk:Bool)(al:Nat):List (Str×Option Str):=mS++(if hk then [(kP,some jK)] else [])++(if al<=1 then [(mV,some jS),(ni,some mV),(ku,some ni)] else [])++(if al=0 then [(lM,some ku)] else [])++(if al=2 then [(nG,some lZ)] else [])
def lH(l:List (Str×Option Str)):List (Str×PV):=l.map λp=>(p.1,wM p.2)
def mP(hk:Bool)(al:Nat):List Str:=(if hk then [kP] else [])++(if al<=1 then [ku] else [])++(if al=0 then [lM] else [])++(if al=2 then [nG] else [])++[j6,jK,jU,lJ,lQ,kZ,kO,kG,kH]
theorem anG{r:Nat}{l l':List (Str×PV)}{u':Nat}(h:η.get r i=some (.sd l u))(h':η.get r' i'=some (.sd l' u'))(mQ:¬ (r=r'/\i=i'))(hl:l.length+l'.length<=65536):ua tab (.dct r i) JY [.ref r' i'] η=some (.none,η.set r i (.sd (xu l l') (u+1))):=jQ h (cnf (by decide +kernel) (lA (by decide +kernel) (jQ (o:=xr (.ref r' i') η) (Xj h') (lA (tu (mh hl) (Gj mQ)) rfl))))
theorem yk{r:Nat}{j:Int}{n:Nat}(h:η.get r i=some (.list l))(hj:j=n)(hn:n<65536)(hv:l[n]?=some v):jR tab (.ref r i) (.int j) η=some v:=by
 subst hj
 exact vA h (BH) (Ia hn) (by rw [Int.toNat_natCast];exact hv)
structure Sg(η:AH)(c:Nat)(sl:List Str)(ab:List (Str×Option Str))(jt:AH):Prop where
 kb:Kb [1,5] η jt
 w:lO jt c
 s:jt.get 0 η.ju=some (.list (jM sl))
 a:∃u,jt.get 0 5=some (.sd (lH ab) u)
section
variable{sl:List Str}{ab:List (Str×Option Str)}
theorem Sg.ke(I:Sg η c sl ab jt)(K:Ke jt jA):Sg η c sl ab jA:=by
 refine o6 (I.a) λu h=>?_
 exact ⟨I.kb.ke K,I.w.kR K.kR,K.get _ _ _ I.s,u,K.get _ _ _ h⟩
theorem Sg.dr(hn:10<=η.ju)(I:Sg η c sl ab jt)(D:Dr jt jA)(w:lO jA c'):Sg η c' sl ab jA:=by
 refine o6 (I.a) λu h=>?_
 exact ⟨I.kb.dr D (by simp),w,by rw [D.get _ _ (abE hn)];exact I.s,u,by rw [D.get _ _ (dc rfl)];exact h⟩
theorem Sg.app(hr:η.reg=0)(hn:10<=η.ju)(I:Sg η c sl ab jt)(hl:sl.length<=100)(x:Str)(e3:look e 3=some (.ref 0 η.ju)){Q:Fl->Sl->AH->Prop}(q:∀jA,Sg η c (sl++[x]) ab jA->Q .next e jA):W1 k (.expr (.mr (.v 3) sU (.cons (.k (.str x)) .nil))) 0 e jt Q:=by
 wtm_at "s";wtm_at "s"
 refine qh e3 ?_
 refine jY (qU I.s (by decide +kernel)) ?_
 wtm_at "W"
 refine qQ (zl I.s (by rw [m6];exact BK hl)) ⟨rfl,q _ ?_⟩
 refine o6 (I.a) λu h=>?_
 refine rH (I.w.at_) λg b n h1 h2=>?_
 exact ⟨I.kb.set (.inr ⟨hr,ak _⟩) _,⟨g,b,n,by rw [AH.ka (abF hn)];exact h1,h2⟩,by rw [AH.lG I.s,tR];rfl,u,by rw [AH.ka (abG hn)];exact h⟩
theorem Sg.put(hn:10<=η.ju)(I:Sg η c sl ab jt)(hl:ab.length<=100)(x y:Str){vE:List (Str×Option Str)}(hp:jN (lH ab) x (.str y)=lH vE)(e2:look e 2=some (.ref 0 5)){Q:Fl->Sl->AH->Prop}(q:∀jA,Sg η c sl vE jA->Q .next e jA):W1 k (.asg (.nZ (.v 2) (.k (.str x))) (.k (.str y))) 0 e jt Q:=by
 refine o6 (I.a) λu h=>?_
 wtm_at "s";wtm_at "s";wtm_at "s"
 refine qh e2 ?_
 wtm_at "W"
 refine jY (zh h (by unfold lH;rw [aC];exact BK hl)) (q _ ?_)
 refine rH (I.w.at_) λg b n h1 h2=>?_
 exact ⟨I.kb.set (.inl (by simp)) _,⟨g,b,n,by rw [AH.ka (dc rfl)];exact h1,h2⟩,by rw [AH.ka (PD hn)];exact I.s,_,by rw [AH.lG h,hp]⟩
theorem Sg.upd(hr:η.reg=0)(hn:10<=η.ju)(I:Sg η c sl ab jt)(hl:ab.length<=100){vE:List (Str×Option Str)}(hp:xu (lH ab) [(mV,.str jS),(ni,.str mV),(ku,.str ni)]=lH vE)(e2:look e 2=some (.ref 0 5)){Q:Fl->Sl->AH->Prop}(q:∀jA,Sg η c sl vE jA->Q .next e jA):
  W1 k (.expr (.mr (.v 2) JY (.cons (.dict (.cons (.k (.str mV)) (.k (.str jS)) (.cons (.k (.str ni)) (.k (.str mV)) (.cons (.k (.str ku)) (.k (.str ni)) .nil)))) .nil))) 0 e jt Q:=by
 refine o6 (I.a) λu h=>?_
 have r':jt.reg=0:=I.kb.reg.trans hr
 wtm_at "s";wtm_at "s"
 refine qh e2 ?_
 refine jY (uH h (by decide +kernel)) ?_
 wtm_at "W"
 have lt:=AH.qi h r'.symm
 refine oE (anG (l':=[(mV,.str jS),(ni,.str mV),(ku,.str ni)]) (AH.lz h) (AH.jT _ _) (abH lt) (by unfold lH;rw [aC];simp;exact abI hl)) ⟨rfl,q _ ?_⟩
 refine rH (I.w.at_) λg b n h1 h2=>?_
 exact ⟨(I.kb.add _).set (.inl (by simp)) _,⟨g,b,n,by rw [AH.ka (dc rfl)];exact AH.lz h1,h2⟩,by rw [AH.ka (PD hn)];exact AH.lz I.s,_,by rw [AH.lG (AH.lz h),hp]⟩
end
section
theorem anH(hr:η.reg=0)(hn:10<=η.ju)(w:lO η c)(hc:c<1000)(h9:η.get 0 9=some (.sd lb ub))(vC:jv lb pW=some (.ref 0 5))(h5:η.get 0 5=some (.sd (lH mS) u))(hK:40<=K):
  jw K (.st (.ref 1121)) [.ref 0 1,.ref 0 9] η λv jt=>∃hk al j u',al<4/\v=.ref 0 j/\η.ju<=j/\jt.get 0 j=some (.list (jM (mP hk al)))/\lO jt (c+2)/\Kb [1,5] η jt/\jt.get 0 5=some (.sd (lH (oQ hk al)) u'):=by
 refine jw.le (k:=40) ?_ hK
 refine jw.at (as:=[.ref 0 1,.ref 0 9]) 0 alk (by wtm_at "o") rfl (by kernel_rfl) ?_;intro _ _
 have b0:lH mS=lH (mS++[]):=by rw [bU]
 rw [show tf=cut 2 tf (kW 2 tf) from rfl]
 generalize qO:kW 2 tf=rest
 unfold tf
 dsimp only [cut]
 have i9:jR tab (.ref 0 9) (.str pW) η=some (.ref 0 5):=lV h9 vC
 have S0:=AH.jT η (.list [])
 rw [hr] at S0
 have I0:Sg η c [] mS (η.add (.list [])):=⟨Kb.refl.add _,w.kR ((Ke.refl η).add (.list [])).kR,S0,u,AH.lz (o:=.list []) h5⟩
 repeat' first|wtm_at "u"|(rw [hr];wtm_at "w")|wtm_at "w"
 revert I0
 generalize η.add (.list [])=Ho
 intro I0
 refine (sF I0.w (PF hc) (show (0:Int)<4 by decide) (dc rfl) (by wtm_at "o")).mono λv jB ⟨⟨d,e1,e2,e3⟩,w1,D1⟩=>?_
 subst e1
 have I1:=I0.dr hn D1 w1
 have stage2:∀(jA:AH) (hk:Bool),Sg η (c+1) (if hk then [kP] else []) (mS++(if hk then [(kP,some jK)] else [])) jA->WS (40 - (10+0+1)) rest 0 [some (.ref 0 1),some (.ref 0 9),some (.ref 0 5),some (.ref 0 η.ju),none] jA (nK λv jt=>∃hk al j u',al<4/\v=.ref 0 j/\η.ju<=j/\jt.get 0 j=some (.list (jM (mP hk al)))/\lO jt (c+2)/\Kb [1,5] η jt/\jt.get 0 5=some (.sd (lH (oQ hk al)) u')):=by
  intro jA hk I2
  have r2:jA.reg=0:=I2.kb.reg.trans hr
  rw [<-qO,show kW 2 tf=cut 4 (kW 2 tf) (kW 6 tf) from rfl]
  generalize anI:kW 6 tf=anJ
  unfold tf
  dsimp only [kW,cut]
  wtm_at "W"
  have L3:=AH.jT jA (.list [.str jK,.str jU,.str j6,.str kT])
  rw [r2] at L3 ⊢
  have I3:=I2.ke ((Ke.refl jA).add (.list [.str jK,.str jU,.str j6,.str kT]))
  revert L3 I3
  generalize jA.add (.list [.str jK,.str jU,.str j6,.str kT])=jD
  intro L3 I3
  refine (sF I3.w (abJ hc) (show (0:Int)<4 by decide) (dc rfl) (by wtm_at "o")).mono λv jV ⟨⟨d,e1,e2,e3⟩,w4,D4⟩=>?_
  subst e1
  have n2:=I2.kb.ju
  have L4:jV.get 0 jA.ju=some (.list [.str jK,.str jU,.str j6,.str kT]):=by rw [D4.get _ _ (PG hn n2)];exact L3
  have I4:=I3.dr hn D4 w4
  clear D4 I3 L3
  have r4:jV.reg=0:=I4.kb.reg.trans hr
  have fin:∀(kJ:AH) (al:Nat) (x:PV),al<4->Sg η (c+2) ((if hk then [kP] else [])++(if al<=1 then [ku] else [])++(if al=0 then [lM] else [])++(if al=2 then [nG] else [])) (oQ hk al) kJ->
    WS (40 - (10+0+1)) anJ 0 [some (.ref 0 1),some (.ref 0 9),some (.ref 0 5),some (.ref 0 η.ju),some x] kJ (nK λv jt=>∃hk al j u',al<4/\v=.ref 0 j/\η.ju<=j/\jt.get 0 j=some (.list (jM (mP hk al)))/\lO jt (c+2)/\Kb [1,5] η jt/\jt.get 0 5=some (.sd (lH (oQ hk al)) u')):=by
   intro kJ al x mG I5
   have r5:kJ.reg=0:=I5.kb.reg.trans hr
   rw [<-anI]
   unfold tf
   dsimp only [kW]
   wtm_at "W"
   refine DG (AH.lz I5.s) (AH.jT _ _) ?_ λoF j K6 h6 hj=>?_
   ·rw [m6]
    split<;>split<;>split<;>split<;>simp
   have r50:(kJ.add (.list [.str j6,.str jK,.str jU,.str lJ,.str lQ,.str kZ,.str kO,.str kG,.str kH])).reg=0:=r5
   rw [r50] at h6 ⊢
   have n5:=I5.kb.ju
   rw [AH.nU] at hj
   refine o6 (I5.a) λu NX=>?_
   refine jO (ae1 hk al j u mG rfl (abK hj n5) ?_ (I5.w.kR (((Ke.refl kJ).add _).trans K6).kR) ((I5.kb.add _).ke K6) (K6.get _ _ _ (AH.lz NX)))
   rw [h6]
   show some (AO.list (jM _++jM [j6,jK,jU,lJ,lQ,kZ,kO,kG,kH]))=_
   rw [<-tR]
   rfl
  have c4:d=0\/d=1\/d=2\/d=3:=abL e2 e3
  rcases c4 with rfl|rfl|rfl|rfl
  ·refine jY (yk (n:=0) L4 rfl (dc rfl) rfl) ?_
   wtm_at "W"
   have I5:=I4.ke ((Ke.refl jV).add (.list [.str jK,.str jU]))
   refine jY (zx (l:=[jK,jU]) (AH.jT _ _) _) ?_
   rw [show decide (jK∈([jK,jU]:List Str))=true by decide +kernel]
   revert I5
   generalize jV.add (.list [.str jK,.str jU])=kJ
   intro I5
   wtm_at "s";wtm_at "s"
   refine I5.upd hr hn (by cases hk<;>decide) (vE:=mS++(if hk then [(kP,some jK)] else [])++[(mV,some jS),(ni,some mV),(ku,some ni)]) (by cases hk<;>kernel_rfl) rfl λoF I6=>?_
   wtm_at "s"
   refine I6.app hr hn (by cases hk<;>decide) ku rfl λmK I7=>?_
   clear I5 I6
   wtm_at "s"
   iterate 8 wtm_at "s"
   refine I7.put hn (by cases hk<;>decide) lM ku (vE:=mS++(if hk then [(kP,some jK)] else [])++[(mV,some jS),(ni,some mV),(ku,some ni)]++[(lM,some ku)]) (by cases hk<;>kernel_rfl) rfl λwO I8=>?_
   wtm_at "s"
   refine I8.app hr hn (by cases hk<;>decide) lM rfl λBh I9=>?_
   wtm_at "W"
   exact fin _ 0 _ (dc rfl) (by cases hk<;>exact I9)
  ·refine jY (yk (n:=1) L4 rfl (dc rfl) rfl) ?_
   wtm_at "W"
   have I5:=I4.ke ((Ke.refl jV).add (.list [.str jK,.str jU]))
   refine jY (zx (l:=[jK,jU]) (AH.jT _ _) _) ?_
   rw [show decide (jU∈([jK,jU]:List Str))=true by decide +kernel]
   revert I5
   generalize jV.add (.list [.str jK,.str jU])=kJ
   intro I5
   wtm_at "s";wtm_at "s"
   refine I5.upd hr hn (by cases hk<;>decide) (vE:=mS++(if hk then [(kP,some jK)] else [])++[(mV,some jS),(ni,some mV),(ku,some ni)]) (by cases hk<;>kernel_rfl) rfl λoF I6=>?_
   wtm_at "s"
   refine I6.app hr hn (by cases hk<;>decide) ku rfl λmK I7=>?_
   clear I5 I6
   wtm_at "s"
   wtm_at "W"
   exact fin _ 1 _ (dc rfl) (by cases hk<;>exact I7)
  ·refine jY (yk (n:=2) L4 rfl (dc rfl) rfl) ?_
   wtm_at "W"
   have I5:=I4.ke ((Ke.refl jV).add (.list [.str jK,.str jU]))
   refine jY (zx (l:=[jK,jU]) (AH.jT _ _) _) ?_
   rw [show decide (j6∈([jK,jU]:List Str))=false by decide +kernel]
   revert I5
   generalize jV.add (.list [.str jK,.str jU])=kJ
   intro I5
   wtm_at "s"
   iterate 17 wtm_at "s"
   refine I5.put hn (by cases hk<;>decide) nG lZ (vE:=mS++(if hk then [(kP,some jK)] else [])++[(nG,some lZ)]) (by cases hk<;>kernel_rfl) rfl λwO I8=>?_
   wtm_at "s"
   refine I8.app hr hn (by cases hk<;>decide) nG rfl λBh I9=>?_
   wtm_at "W"
   exact fin _ 2 _ (dc rfl) (by cases hk<;>exact I9)
  ·refine jY (yk (n:=3) L4 rfl (dc rfl) rfl) ?_
   wtm_at "W"
   have I5:=I4.ke ((Ke.refl jV).add (.list [.str jK,.str jU]))
   refine jY (zx (l:=[jK,jU]) (AH.jT _ _) _) ?_
   rw [show decide (kT∈([jK,jU]:List Str))=false by decide +kernel]
   revert I5
   generalize jV.add (.list [.str jK,.str jU])=kJ
   intro I5
   wtm_at "s"
   wtm_at "W"
   exact fin _ 3 _ (dc rfl) (by cases hk<;>exact I5)
 by_cases hd:0<d
 ·refine jY (f:=nh .Gt _ _ _) (v:=true) (by show some (decide (0<d))=_;rw [decide_eq_true hd]) ?_
  wtm_at "s";wtm_at "s"
  refine I1.put hn (dc rfl) kP jK (vE:=mS++[(kP,some jK)]) (by kernel_rfl) rfl λjA I2=>?_
  wtm_at "s"
  refine I2.app hr hn (by simp) kP rfl λjD I3=>?_
  wtm_at "W"
  exact stage2 _ true I3
 ·refine jY (f:=nh .Gt _ _ _) (v:=false) (by show some (decide (0<d))=_;rw [decide_eq_false hd]) ?_
  wtm_at "W"
  exact stage2 _ false (by simpa using I1)
end
end
section
noncomputable abbrev Rows:=List (Str×Nat×List Str)
noncomputable def yl(fl:Rows):List (Str×PV):=fl.map λp=>(p.1,.ref 0 p.2.1)
structure mL(η:AH)(i:Nat)(fl:Rows):Prop where
 at_:(fl=[]/\η.get 0 i=some .jE)\/∃u,η.get 0 i=some (.sd (yl fl) u)
 row:∀p∈fl,10<=p.2.1/\η.get 0 p.2.1=some (.list (jM p.2.2))
def rowOf(fl:Rows)(x:Str):List Str:=match jv fl x with
|some p=>p.2
|none=>[]
theorem DM(fl:Rows)(x:Str):jv (yl fl) x=(jv fl x).map λp=>.ref 0 p.1:=Bf (λp:Nat×List Str=>(.ref 0 p.1:PV)) fl x
theorem qW{α:Type}:∀{l:List (Str×α)} {x:Str} {v:α},jv l x=some v->(x,v)∈l
|[],x,v,h=>by cases h
|(y,u)::r,x,v,h=>by
  unfold jv at h
  induction hq:sq y x using Bool.casesOn with
 |true=>
   rw [hq] at h
   refine xs h λlX=>?_
   try clear h
   obtain rfl:=lX
   rw [kj.mp hq]
   exact bL
 |false=>
   rw [hq] at h
   exact bu _ (qW h)
theorem anK(fl:Rows)(x:Str)(j:Nat)(r:List Str):jN (yl fl) x (.ref 0 j)=yl (jN fl x (j,r)):=by
 induction fl with
|nil=>rfl
|cons p t ih=>
  obtain ⟨y,v⟩:=p
  show jN ((y,.ref 0 v.1)::yl t) x (.ref 0 j)=yl (jN ((y,v)::t) x (j,r))
  unfold jN
  induction sq y x using Bool.casesOn with
 |true=>rfl
 |false=>exact congrArg ((y,PV.ref 0 v.1)::·) ih
theorem Hp{α:Type}(x:Str)(v:α):∀(l:List (Str×α)) (p:Str×α),p∈jN l x v->p∈l\/p=(x,v)
|[],p,h=>.inr (by simpa [jN] using h)
|(y,u)::r,p,h=>by
  unfold jN at h
  induction hq:sq y x using Bool.casesOn with
 |true=>
   rw [hq] at h
   rcases aB.mp h with h|h
   ·exact .inr (by rw [h,kj.mp hq])
   ·exact .inl (bu _ h)
 |false=>
   rw [hq] at h
   rcases aB.mp h with h|h
   ·exact .inl (by rw [h];exact bL)
   ·rcases Hp x v r p h with h|h
    ·exact .inl (bu _ h)
    ·exact .inr h
section
variable{a:Nat}
theorem mL.mono(R:mL η i fl)(h:∀j o,j≠1->η.get 0 j=some o->jt.get 0 j=some o)(hi:i≠1):mL jt i fl:=by
 refine ⟨?_,λp hp=>⟨(R.row p hp).1,h _ _ (by have:=(R.row p hp).1;exact BJ this) (R.row p hp).2⟩⟩
 rcases R.at_ with ⟨h1,h2⟩|⟨u,h1⟩
 ·exact .inl ⟨h1,h _ _ hi h2⟩
 ·exact .inr ⟨u,h _ _ hi h1⟩
theorem mL.ke(R:mL η i fl)(K:Ke η jt)(hi:i≠1):mL jt i fl:=R.mono (λj o J e=>K.get _ _ _ e) hi
theorem mL.dr(R:mL η i fl)(D:Dr η jt)(hi:i≠1):mL jt i fl:=R.mono (λj o hj e=>by rw [D.get _ _ (Im hj)];exact e) hi
theorem mL.other(R:mL η i fl)(o:AO)(ha:a<10)(Zq:i≠a):mL (η.set 0 a o) i fl:=by
 refine ⟨?_,λp hp=>⟨(R.row p hp).1,by rw [AH.ka (by have:=(R.row p hp).1;exact adz ha this)];exact (R.row p hp).2⟩⟩
 rcases R.at_ with ⟨h1,h2⟩|⟨u,h1⟩
 ·exact .inl ⟨h1,by rw [AH.ka (Qd Zq)];exact h2⟩
 ·exact .inr ⟨u,by rw [AH.ka (Qd Zq)];exact h1⟩
theorem mL.put(R:mL η i fl)(hi:i<10)(hl:fl.length<=100){x:Str}{r:List Str}(hj:10<=j)(hg:η.get 0 j=some (.list (jM r))):∃o,nv (.ref 0 i) (.str x) (.ref 0 j) η=some (η.set 0 i o)/\mL (η.set 0 i o) i (jN fl x (j,r)):=by
 have rows:∀o,∀p∈jN fl x (j,r),10<=p.2.1/\(η.set 0 i o).get 0 p.2.1=some (.list (jM p.2.2)):=λo p hp=>by
  have:10<=p.2.1/\η.get 0 p.2.1=some (.list (jM p.2.2)):=by
   rcases Hp x (j,r) fl p hp with h|rfl
   ·exact R.row p h
   ·exact ⟨hj,hg⟩
  exact ⟨this.1,by rw [AH.ka (by omega)];exact this.2⟩
 rcases R.at_ with ⟨rfl,h⟩|⟨u,h⟩
 ·refine ⟨.sd [(x,.ref 0 j)] 0,?_,⟨.inr ⟨0,?_⟩,rows _⟩⟩
  ·exact AI h
  ·exact AH.lG h
 ·refine ⟨_,zh h (by unfold yl;rw [aC];exact BK hl),⟨.inr ⟨u+1,?_⟩,rows _⟩⟩
  rw [AH.lG h,anK fl x j r]
theorem mL.get(R:mL η i fl)(hr:η.reg=0)(hn:10<=η.ju)(hi:i<10){x:Str}{Q:PV->AH->Prop}(ex:look e 6=some (.str x))(q:∀j jt,Ke η jt->jt.get 0 j=some (.list (jM (rowOf fl x)))->10<=j->Q (.ref 0 j) jt):
  ∃m,pN tab (.ref 0 i) oq η=some m/\WL k (.cons (.v 6) (.cons (.list .nil) .nil)) e η λvs η=>WM k m oq vs η Q:=by
 have mQ:=AH.jT η (.list [])
 rw [hr] at mQ
 rcases R.at_ with ⟨rfl,h⟩|⟨u,h⟩
 ·refine jY (xY h) ?_
  wtm_at "s"
  refine qh ex ?_
  wtm_at "W"
  rw [hr]
  exact oE (xZ (AH.lz h) rfl) (q _ _ ((Ke.refl η).add _) mQ hn)
 ·refine jY (uH h (by decide +kernel)) ?_
  wtm_at "s"
  refine qh ex ?_
  wtm_at "W"
  rw [hr]
  unfold rowOf at q
  induction hf:jv fl x using Option.casesOn with
 |none=>
   rw [hf] at q
   exact oE (rE (AH.lz h) (Dk (by rw [DM,hf];rfl))) (q _ _ ((Ke.refl η).add _) mQ hn)
 |some p=>
   rw [hf] at q
   have hm:=R.row _ (qW hf)
   exact oE (rE (AH.lz h) (Dj (by rw [DM,hf];rfl))) (q _ _ ((Ke.refl η).add _) (AH.lz hm.2) hm.1)
end
def vH(hk:Bool)(al:Nat):List Str:=[jK,jU,lQ]++(if hk then [kP] else [])++(if al=0 then [lM] else [])++(if al<=1 then [ku] else [])
def anL(hk:Bool)(al:Nat)(g:Str)(r:List Str):Prop:=(g∈vH hk al/\(r=[j6]\/r=[lJ]\/r=[j6,lJ]\/r=[lJ,j6]))\/(g=j6/\r=[lJ])
structure oR(hk:Bool)(al:Nat)(fl:Rows):Prop where
 ok:∀p∈fl,anL hk al p.1 p.2.2
 nodup:(fl.map az).Nodup
theorem oR.put(R:oR hk al fl){x:Str}(hg:g=j6\/g=lJ)(hx:x∈vH hk al\/(x=j6/\g=lJ))(hn:g∉rowOf fl x):oR hk al (jN fl x (j,rowOf fl x++[g])):=by
 refine ⟨λp hp=>?_,?_⟩
 ·rcases Hp x _ fl p hp with h|rfl
  ·exact R.ok p h
  ·dsimp only
   unfold rowOf at hn ⊢
   induction hf:jv fl x using Option.casesOn with
  |none=>
    rcases hx with hx|⟨rfl,rfl⟩
    ·rcases hg with rfl|rfl
     ·exact .inl ⟨hx,.inl rfl⟩
     ·exact .inl ⟨hx,.inr (.inl rfl)⟩
    ·exact .inr ⟨rfl,rfl⟩
  |some q=>
    rw [hf] at hn
    have h:=R.ok _ (qW hf)
    dsimp only at h hn ⊢
    rcases h with ⟨h1,h2⟩|⟨h1,h2⟩
    ·rcases h2 with h2|h2|h2|h2<;>rw [h2] at hn ⊢<;>rcases hg with rfl|rfl
     ·simp at hn
     ·exact .inl ⟨h1,.inr (.inr (.inl rfl))⟩
     ·exact .inl ⟨h1,.inr (.inr (.inr rfl))⟩
     ·simp at hn
     ·simp at hn
     ·simp at hn
     ·simp at hn
     ·simp at hn
    ·rw [h2] at hn ⊢
     rcases hx with hx|⟨_,rfl⟩
     ·exfalso
      subst h1
      revert hx
      unfold vH
      cases hk<;>(by_cases h0:al=0)<;>(by_cases h1:al<=1)<;>simp only [h0,h1,if_true,if_false]<;>decide +kernel
     ·simp at hn
 ·rw [yf]
  split
  ·exact R.nodup
  ·rename_i h
   rw [cA]
   exact ⟨R.nodup,by simp,λa ha b hb e=>by rw [aJ.mp hb] at e;exact h (e▸ha)⟩
end
theorem Zr{α:Type}(l:List (Str×α))(x:Str)(v:α):(jN l x v).length<=l.length+1:=by
 have:=congrArg gp (yf x v l)
 rw [aC] at this
 rw [this]
 split<;>simp
def ym:jF:=match CY with
|.cons (.for _ _ _ b) _=>b
|_=>.nil
theorem anM(h:η.get 0 5=some (.sd (lH (oQ hk al)) u))(x:Str):nh .In (.str x) (.ref 0 5) η=some (jv (oQ hk al) x).isSome:=by
 show (η.get 0 5).bind _=_
 refine jQ h ?_
 unfold lH
 exact congrArg some (by dsimp only;rw [Bf wM];cases jv (oQ hk al) x<;>rfl)
theorem anN(mG:al<4){x:Str}(h:x∈[jK,jU,lQ]++(if g=lJ then [j6] else [])++[kP,lM,ku].filter λy=>(jv (oQ hk al) y).isSome):x∈vH hk al\/(x=j6/\g=lJ):=by
 rcases aH.mp h with h|h
 ·rcases aH.mp h with h|h
  ·left
   unfold vH
   exact bD _ (bD _ (bD _ h))
  ·split at h
   ·rename_i hg
    exact .inr ⟨aJ.mp h,hg⟩
   ·simp at h
 ·left
  refine jP (cC.mp h) λh1 h2=>?_
  have c4:al=0\/al=1\/al=2\/al=3:=Ea mG
  simp only [aB,aU,or_false] at h1
  rcases c4 with rfl|rfl|rfl|rfl<;>cases hk<;>rcases h1 with rfl|rfl|rfl<;>revert h2<;>decide +kernel
theorem anO{r:Nat}{b:Bool}{Q:PV->AH->Prop}(h:η.get r i=some (.list [v]))(q:∀jA j,Ke η jA->jA.get η.reg j=some (.list (if b then [v] else []))->η.ju<=j->Q (.ref η.reg j) jA):∃u jt,qZ .Mult (.ref r i) (.int (cond b 1 0)) η=some (u,jt)/\Q u jt:=by
 refine mC (v:=.ref η.reg η.ju) (u:=η.add (.list (if b then [v] else []))) ?_ (q _ _ ((Ke.refl η).add _) (AH.jT _ _) (ak _))
 exact jQ (oi h) (by cases b<;>rfl)
section
theorem Zt(hr:η.reg=0)(hn:10<=η.ju)(h9:η.get 0 9=some (.sd lb ub))(vC:jv lb pW=some (.ref 0 5))(mG:al<4)(h5:η.get 0 5=some (.sd (lH (oQ hk al)) u))(hkk:20<=k)
   {s:Str} {a b:Nat} {rows Zu:Rows} (hg:g=j6\/g=lJ) (hs:jv lb s=some (.ref 0 a)) (rG:(a=6/\b=7)\/(a=7/\b=6)) (R:mL jA a rows) (R2:mL jA b Zu) (ok:oR hk al rows) (hl:rows.length<=50) (w:lO jA c) (hc:c<900) (kb:Kb [1,6,7] η jA)
   {Q:Fl->Sl->AH->Prop}
  (q:∀jD zC p5 p6 p7,mL jD a zC->mL jD b Zu->oR hk al zC->zC.length<=rows.length+1->lO jD (c+1)->Kb [1,6,7] η jD->Q .next [some (.ref 0 1),some (.ref 0 9),p2,some (.str g),some (.str s),p5,p6,p7,p8,p9] jD) :
  WS k (kW 1 ym) 0 [some (.ref 0 1),some (.ref 0 9),p2,some (.str g),some (.str s),p5,p6,p7,p8,p9] jA Q:=by
 unfold ym CY
 dsimp only [kW]
 have r2:jA.reg=0:=kb.reg.trans hr
 have h92:=kb.get 9 _ (dc rfl) h9
 have h52:=kb.get 5 _ (dc rfl) h5
 have Bo:∀e:AH,nh .Eq (.str g) (.str lJ) e=some (decide (g=lJ)):=λe=>by
  show some (sq g lJ)=_
  congr 1
  rw [fH,kj,decide_eq_true_iff]
 wtm_at "W"
 rw [show sq g lJ=decide (g=lJ) by rw [fH,kj,decide_eq_true_iff]]
 refine jw.nB (by wtm_at "o") (by intro _ h;cases h) (show qF tab (.type "int") [.bool (decide (g=lJ))] _=some (.int (cond (decide (g=lJ)) 1 0),_) from rfl) ?_
 have Zv:Ke jA ((jA.add (.list [.str jK,.str jU,.str lQ])).add (.list [.str j6])):=((Ke.refl jA).add _).add _
 refine anO (AH.jT _ _) λjD j3 K3 h3 hj3=>?_
 refine DG (K3.get _ _ _ (AH.lz (AH.jT _ _))) h3 (by split<;>simp) λjV j4 K4 h4 hj4=>?_
 have Hq:=(Zv.trans K3).trans K4
 have r4:jV.reg=0:=Hq.reg.trans r2
 have r3:jD.reg=0:=(Zv.trans K3).reg.trans r2
 have h4:jV.get 0 j4=some (.list (jM ([jK,jU,lQ]++(if g=lJ then [j6] else [])))):=by
  rw [r3] at h4
  rw [h4]
  by_cases e:g=lJ<;>simp [e,jM]
 rw [r3]
 have DN:=Hq.get _ _ _ h92
 have i9:∀(x:Str) (v:PV),jv lb x=some v->∀jt,Ke jV jt->jR tab (.ref 0 9) (.str x) jt=some v:=λx v hx jt K=>lV (K.get _ _ _ DN) hx
 refine su ?_
 wtm_at "W"
 have hF:=AH.jT jV (.list [.str kP,.str lM,.str ku])
 have KF:=(Ke.refl jV).add (.list [.str kP,.str lM,.str ku])
 rw [r4] at hF ⊢
 refine ⟨_,tE hF,rfl,?_⟩
 rw [tF hF]
 revert hF KF
 generalize jV.add (.list [.str kP,.str lM,.str ku])=kJ
 intro hF KF
 have r5:kJ.reg=0:=KF.reg.trans r4
 rw [r5]
 simp only [clear,qR,qS]
 let pC:Str->Bool:=λy=>(jv (oQ hk al) y).isSome
 refine uG .str [kP,lM,ku] (dc rfl) (λy:Option PV=>[some (.ref 0 1),some (.ref 0 9),p2,some (.str g),some (.str s),p5,p6,p7,none,y]) (λd J jt=>Ke kJ jt/\jt.get 0 kJ.ju=some (.list (jM (d.filter pC)))) _ rfl (λd J jt h=>h.1.get _ _ _ hF) ⟨(Ke.refl _).add _,by have:=AH.jT kJ (.list []);rw [r5] at this;exact this⟩ ?_ ?_
 ·intro d x t y jt hd I GG qG
  refine jP I λK6 h6=>?_
  refine ⟨_,rfl,?_⟩
  simp only [qR,qS]
  have ia:=i9 pW _ vC jt (KF.trans K6)
  have nV:d.length<3:=by have:([kP,lM,ku]:List Str).length=3:=rfl;rw [hd] at this;simp at this;exact adD this
  have qj:=bV pC d
  wtm_at "W"
  refine jY (anM (((Hq.trans KF).trans K6).get _ _ _ h52) x) ?_
  induction lU:(jv (oQ hk al) x).isSome using Bool.casesOn with
 |false=>
   refine ⟨false,rfl,λh=>(nomatch h),λJ=>⟨λh=>(nomatch h),λJ=>qG _ _ ⟨K6,?_⟩⟩⟩
   have:pC x=false:=lU
   rw [h6,b8]
   simp [this]
 |true=>
   refine ⟨true,rfl,λJ=>?_,λh=>nomatch h⟩
   wtm_at "s"
   refine ⟨λJ=>?_,λh=>nomatch h⟩
   wtm_at "W"
   have:pC x=true:=lU
   refine ⟨_,?_,qG _ _ ⟨K6.set r5.symm (ak _) _,AH.lG h6⟩⟩
   refine (sy h6).trans ?_
   rw [mh (by rw [m6];exact adE nV qj),cond_true,b8,tR]
   simp [this,jM]
 intro y oF I
 refine jP I λK6 h6=>?_
 have Hr:=KF.trans K6
 have r6:oF.reg=0:=Hr.reg.trans r4
 refine DG (Hr.get _ _ _ h4) h6 ?_ λmK j7 K7 h7 J=>?_
 ·rw [m6,m6]
  have:=bV pC [kP,lM,ku]
  simp only [aE,aZ,dz] at this ⊢
  split<;>simp<;>(first|exact adF this|exact adG this)
 rw [r6] at h7 ⊢
 rw [<-tR] at h7
 have DP:=(Hq.trans Hr).trans K7
 have r7:mK.reg=0:=DP.reg.trans r2
 have R7:=R.ke DP (Ej rG)
 have Zw:=R2.ke DP (Ek rG)
 have w7:=w.kR DP.kR
 have vJ:=kb.ke DP
 have Zx:∀x∈([jK,jU,lQ]++(if g=lJ then [j6] else [])++[kP,lM,ku].filter pC),x∈vH hk al\/(x=j6/\g=lJ):=λx hx=>anN mG hx
 have Hs:([jK,jU,lQ]++(if g=lJ then [j6] else [])++[kP,lM,ku].filter pC).length<=7:=by
  have:=bV pC [kP,lM,ku]
  simp only [aE,aZ,dz] at this ⊢
  split<;>simp<;>(first|exact adH this|exact adJ this)
 have NZ:0<([jK,jU,lQ]++(if g=lJ then [j6] else [])++[kP,lM,ku].filter pC).length:=by simp
 generalize ([jK,jU,lQ]++(if g=lJ then [j6] else [])++[kP,lM,ku].filter pC)=DQ at h7 Zx Hs NZ
 clear K7 h6 K6 Hr KF hF h4 h3 K4 K3 hj3 hj4
 wtm_at "W"
 refine jw.nB (by wtm_at "o") (by intro _ h;cases h) (GW h7 (by rw [m6];exact adK Hs)) ?_
 rw [m6]
 wtm_at "W"
 refine (sF w7 (adL hc) (show (0:Int)<(DQ.length:Int) by exact BL NZ) (adN Hs) (by wtm_at "o")).mono λv wO ⟨⟨d,e1,e2,e3⟩,w8,D8⟩=>?_
 subst e1
 obtain ⟨n,rfl⟩:∃n:Nat,d=n:=⟨d.toNat,by exact wW e2⟩
 have Zy:n<DQ.length:=Il e3
 have anP:j7≠1:=by
  rintro rfl
  refine rH (w7.at_) λx y z h J=>?_
  rw [h] at h7
  induction DQ using List.casesOn with
 |nil=>simp at NZ
 |cons a t=>injection h7 with h7;injection h7 with h7;injection h7 with h7;cases h7
 have Zz:wO.get 0 j7=some (.list (jM DQ)):=by rw [D8.get _ _ (Im anP)];exact h7
 have ZB:=Zx _ (dm Zy)
 refine jY (item_str Zz (adO Hs e3) (aR Zy)) ?_
 generalize DQ[n]=goal at ZB ⊢
 have r8:wO.reg=0:=D8.reg.trans r7
 have R8:=R7.dr D8 (Ej rG)
 have R28:=Zw.dr D8 (Ek rG)
 have yo:=vJ.dr D8 (by simp)
 have n8:=yo.ju
 have Ht:=yo.get 9 _ (dc rfl) h9
 have is8:jR tab (.ref 0 9) (.str s) wO=some (.ref 0 a):=lV Ht hs
 clear D8 Zz w7 R7 Zw vJ h7
 wtm_at "W"
 refine R8.get r8 (adP hn n8) (IB rG) rfl λj9 Bh K9 Bp hj9=>?_
 have R9:=R8.ke K9 (Ej rG)
 have ZC:=R28.ke K9 (Ek rG)
 have w9:=w8.kR K9.kR
 have Hu:=yo.ke K9
 have r9:Bh.reg=0:=K9.reg.trans r8
 wtm_at "W"
 have lU:sN (.str g) (.ref 0 j9) Bh=some (decide (g∈rowOf rows goal)):=zx Bp g
 refine AY lU ?_
 by_cases N3:g∈rowOf rows goal
 ·rw [decide_eq_true N3]
  wtm_at "W"
  exact q _ _ _ _ _ R9 ZC ok (Ec) w9 Hu
 ·rw [decide_eq_false N3]
  have Nv:(rowOf rows goal).length<=2:=by
   unfold rowOf
   induction hf:jv rows goal using Option.casesOn with
  |none=>simp
  |some p=>
    have:=ok.ok _ (qW hf)
    dsimp only
    rcases this with ⟨_,h⟩|⟨_,h⟩<;>dsimp only at h
    ·rcases h with h|h|h|h<;>rw [h]<;>simp
    ·rw [h];simp
  wtm_at "W"
  refine DG (AH.lz Bp) (AH.jT _ _) (by rw [m6];simp;exact adQ Nv) λDH ZD K10 Bq ZE=>?_
  rw [AH.oh,r9] at Bq ⊢
  have DR:=((Ke.refl Bh).add (.list [.str g])).trans K10
  have h99:=(Hu.ke DR).get 9 _ (dc rfl) h9
  have aq6:jR tab (.ref 0 9) (.str s) DH=some (.ref 0 a):=lV h99 hs
  have n9:=Hu.ju
  rw [AH.nU] at ZE
  have Bq:DH.get 0 ZD=some (.list (jM (rowOf rows goal++[g]))):=by rw [Bq,tR];rfl
  refine jZ ((R9.ke DR (Ej rG)).put (IB rG) (adR hl) (x:=goal) (j:=ZD) (adS hn ZE n9) Bq) λo p1 p2=>?_
  wtm_at "W"
  refine rH ((w9.kR DR.kR).at_) λg' b' n' hw uK=>?_
  refine q _ _ _ _ _ p2 ((ZC.ke DR (Ek rG)).other o (IB rG) (adT rG)) (ok.put hg ZB N3) ?_ ⟨g',b',n',by rw [AH.ka (adU rG)];exact hw,uK⟩ ((Hu.ke DR).set (.inl ?_) o)
  ·exact ah (Zr _ _ _) (adV)
  ·rcases rG with ⟨rfl,_⟩|⟨rfl,_⟩<;>simp
structure MX(η:AH)(hk:Bool)(al c j:Nat)(jt:AH):Prop where
 rows:∃fl ml,mL jt 6 fl/\mL jt 7 ml/\oR hk al fl/\oR hk al ml/\fl.length<=j/\ml.length<=j
 w:lO jt (c+1+2*j)
 kb:Kb [1,6,7] η jt
theorem anQ(hr:η.reg=0)(hn:10<=η.ju)(h9:η.get 0 9=some (.sd lb ub))(vC:jv lb pW=some (.ref 0 5))(wK:jv lb pX=some (.ref 0 6))(hmx:jv lb mW=some (.ref 0 7))(mG:al<4)(h5:η.get 0 5=some (.sd (lH (oQ hk al)) u))
  (h6:η.get 0 6=some .jE) (h7:η.get 0 7=some .jE) (w:lO η c) (hc:c<800) (hK:40<=K) :
  jw K (.st (.ref 1126)) [.ref 0 1,.ref 0 9] η λv jt=>v=.none/\∃fl ml,mL jt 6 fl/\mL jt 7 ml/\oR hk al fl/\oR hk al ml/\fl.length<=3/\ml.length<=3/\lO jt (c+10)/\Kb [1,6,7] η jt:=by
 refine jw.le (k:=40) ?_ hK
 refine jw.wH 8 (as:=[.ref 0 1,.ref 0 9]) 0 alm (by wtm_at "o") rfl (by kernel_rfl) ?_;intro _ _
 unfold CY
 wtm_at "W"
 refine (sF w (adW hc) (show (0:Int)<3 by decide) (dc rfl) (by wtm_at "o")).mono λv jB ⟨⟨d,e1,e2,e3⟩,w1,D1⟩=>?_
 subst e1
 obtain ⟨n,rfl⟩:∃n:Nat,d=n:=⟨d.toNat,by exact wW e2⟩
 refine mC (v:=.int (1+n)) (u:=jB) rfl ?_
 rw [show (1+(n:Int))=((1+n:Nat):Int) by exact adX]
 wtm_at "W"
 refine jw.nB (by wtm_at "o") (by intro _ h;cases h) (Dy (n:=1+n) (Qe e3)) ?_
 have kb1:Kb [1,6,7] η jB:=Kb.refl.dr D1 (by simp)
 have ZF:oR hk al []:=⟨λp h=>(nomatch h),dJ⟩
 refine Gs (n:=1+n) (Qe e3) (λx:Jk=>[some (.ref 0 1),some (.ref 0 9),x 0,x 1,x 2,x 3,x 4,x 5,x 6,x 7]) (λj J jt=>MX η hk al c j jt) (λi=>[_,_,_,_,_,_,_,_].getD i none) rfl ⟨⟨[],[],⟨.inl ⟨rfl,by rw [D1.get _ _ (dc rfl)];exact h6⟩,λp h=>nomatch h⟩,⟨.inl ⟨rfl,by rw [D1.get _ _ (dc rfl)];exact h7⟩,λp h=>nomatch h⟩,ZF,ZF,ak _,ak _⟩,w1,kb1⟩ ?_ ?_
 ·intro x t jk jA hlen I GG qG
  obtain ⟨⟨fl,ml,R6,R7,Br,Bs,l6,l7⟩,w2,kb2⟩:=I
  have hx:x=x:=rfl
  refine ⟨_,rfl,?_⟩
  simp only [qR,qS]
  obtain ⟨g,hg,hi⟩:∃g,(g=j6\/g=lJ)/\∀e:AH,jR tab (.str RZ) (.int x) e=some (.str g):=by
   have:x=0\/x=1\/x=2:=adZ e3 hlen hx
   rcases this with rfl|rfl|rfl
   ·exact ⟨j6,.inl rfl,λe=>by kernel_rfl⟩
   ·exact ⟨lJ,.inr rfl,λe=>by kernel_rfl⟩
   ·exact ⟨j6,.inl rfl,λe=>by kernel_rfl⟩
  have r2:jA.reg=0:=kb2.reg.trans hr
  show WS _ ym 0 _ _ _
  rw [show ym=cut 1 ym (kW 1 ym) from rfl]
  generalize qO:kW 1 ym=rest
  unfold ym CY
  dsimp only [cut]
  have hi2:=hi jA
  wtm_at "W"
  have hL:=AH.jT jA (.list [.str mW,.str pX])
  have KL:=(Ke.refl jA).add (.list [.str mW,.str pX])
  rw [r2] at hL ⊢
  have n2:=kb2.ju
  have N4:=R6.ke KL (dc rfl)
  have N6:=R7.ke KL (dc rfl)
  have N7:=w2.kR KL.kR
  have N8:=kb2.ke KL
  revert hL N4 N6 N7 N8
  generalize jA.add (.list [.str mW,.str pX])=jD
  intro hL N4 N6 N7 N8
  refine (sF N7 (ad0 hc e3 hlen) (show (0:Int)<2 by decide) (dc rfl) (by wtm_at "o")).mono λv jV ⟨⟨d',e1,e2,e3⟩,w4,D4⟩=>?_
  subst e1
  have ZG:jV.get 0 jA.ju=some (.list [.str mW,.str pX]):=by rw [D4.get _ _ (PG hn n2)];exact hL
  have ZH:=N4.dr D4 (dc rfl)
  have ZI:=N6.dr D4 (dc rfl)
  have tU:=N8.dr D4 (by simp)
  have c2:d'=0\/d'=1:=ad1 e2 e3
  rcases c2 with rfl|rfl
  ·refine jY (yk (n:=0) ZG rfl (dc rfl) rfl) ?_
   wtm_at "W"
   rw [<-qO]
   refine Zt hr hn h9 vC mG h5 (dc rfl) hg hmx (.inr ⟨rfl,rfl⟩) ZI ZH Bs (Qf (by assumption) l7 hlen) w4 (Qg hc (by assumption) hlen) tU λkJ zC p5 p6 p7 S7 S6 Oa l' w5 vK=>?_
   exact qG (λi=>([some (.int x),some (.str g),some (.str mW),p5,p6,p7,jk 6,jk 7]:Sl).getD i none) _ ⟨⟨fl,zC,S6,S7,Br,Oa,by exact zI l6,by exact H8 l7 l'⟩,w5,vK⟩
  ·refine jY (yk (n:=1) ZG rfl (dc rfl) rfl) ?_
   wtm_at "W"
   rw [<-qO]
   refine Zt hr hn h9 vC mG h5 (dc rfl) hg wK (.inl ⟨rfl,rfl⟩) ZH ZI Br (Qf (by assumption) l6 hlen) w4 (Qg hc (by assumption) hlen) tU λkJ zC p5 p6 p7 S6 S7 Oa l' w5 vK=>?_
   exact qG (λi=>([some (.int x),some (.str g),some (.str pX),p5,p6,p7,jk 6,jk 7]:Sl).getD i none) _ ⟨⟨zC,ml,S6,S7,Oa,Bs,by exact H8 l6 l',by exact zI l7⟩,w5,vK⟩
 ·intro x jA I
  obtain ⟨⟨fl,ml,R6,R7,Br,Bs,l6,l7⟩,w2,kb2⟩:=I
  wtm_at "W"
  exact wI ⟨rfl,fl,ml,R6,R7,Br,Bs,by exact Qh e3 l6,by exact Qh e3 l7,w2.le (ad2 e3),kb2⟩
end
abbrev pR:=List (Str×pB)
def yp(hl:pR):List (Str×PV):=hl.map λp=>(p.1,lP p.2)
def om(η:AH)(hl:pR):Prop:=(hl=[]/\η.get 0 8=some .jE)\/∃u,η.get 0 8=some (.sd (yp hl) u)
structure uL(sp:List Str)(nt pT:Str)(hl:pR):Prop where
 ok:∀p∈hl,p.1∈sp/\(((p.2.1=sV\/p.2.1=nH\/p.2.1=lN)/\(p.2.2.1=kU\/p.2.2.1=mq\/p.2.2.1=nQ)/\p.2.2.2∈sp)\/(p.2.1=lu/\p.2.2.1=pT/\p.2.2.2=p.1/\p.1=nt/\nt≠kT))
 nodup:(hl.map az).Nodup
 nt:nt≠kT->nt∈hl.map az
theorem anR(hl:pR)(x:Str)(h:pB):jN (yp hl) x (lP h)=yp (jN hl x h):=by
 induction hl with
|nil=>rfl
|cons p t ih=>
  obtain ⟨y,v⟩:=p
  show jN ((y,lP v)::yp t) x (lP h)=yp (jN ((y,v)::t) x h)
  unfold jN
  induction sq y x using Bool.casesOn with
 |true=>rfl
 |false=>exact congrArg ((y,lP v)::·) ih
theorem uL.put{sp:List Str}{nt pT:Str}(H:uL sp nt pT hl){x s o:Str}(hx:x∈sp)(hs:s=sV\/s=nH\/s=lN)(hg:g=kU\/g=mq\/g=nQ)(ho:o∈sp):uL sp nt pT (jN hl x (s,g,o)):=by
 refine ⟨λp hp=>?_,?_,λh=>?_⟩
 ·rcases Hp x _ hl p hp with h|rfl
  ·exact H.ok p h
  ·exact ⟨hx,.inl ⟨hs,hg,ho⟩⟩
 ·rw [yf]
  split
  ·exact H.nodup
  ·rename_i h
   rw [cA]
   exact ⟨H.nodup,by simp,λa ha b hb e=>by rw [aJ.mp hb] at e;exact h (e▸ha)⟩
 ·rw [yf]
  split
  ·exact H.nt h
  ·exact bD _ (H.nt h)
section
theorem om.mono(E:om η hl)(h:∀o,η.get 0 8=some o->jt.get 0 8=some o):om jt hl:=by
 rcases E with ⟨h1,h2⟩|⟨u,h1⟩
 ·exact .inl ⟨h1,h _ h2⟩
 ·exact .inr ⟨u,h _ h1⟩
theorem om.dr(E:om η hl)(D:Dr η jt):om jt hl:=E.mono λo e=>by rw [D.get _ _ (dc rfl)];exact e
theorem om.put(E:om η hl)(hn:hl.length<=100)(x:Str)(h:pB):∃o,nv (.ref 0 8) (.str x) (lP h) η=some (η.set 0 8 o)/\om (η.set 0 8 o) (jN hl x h):=by
 rcases E with ⟨rfl,h1⟩|⟨u,h1⟩
 ·refine ⟨.sd [(x,lP h)] 0,?_,.inr ⟨0,AH.lG h1⟩⟩
  exact AI h1
 ·refine ⟨_,zh h1 (by unfold yp;rw [aC];exact BK hn),.inr ⟨u+1,?_⟩⟩
  rw [AH.lG h1,anR]
end
section
theorem ZJ(w:lO η c)(hc:c<5000)(hk:20<=k){m:Nat}{M:List Str}(hm:m≠1)(hM:η.get 0 m=some (.list (jM M)))(mQ:0<M.length)(hl:M.length<=60000){Q:PV->AH->Prop}(q:∀x jt,x∈M->lO jt (c+1)->Dr η jt->Q (.str x) jt):
  jw k (.st (.builtin "len")) [.ref 0 m] η λv η=>WL k .nil e η λvs η=>jw k (.st (.ref 1114)) (.ref 0 1::v::vs) η λkv η=>∃v,jR tab (.ref 0 m) kv η=some v/\Q v η:=by
 refine jw.nB (by wtm_at "o") (by intro _ h;cases h) (GW hM (by rw [m6];exact D0 hl)) ?_
 rw [m6]
 wtm_at "s"
 refine (sF w (Ik hc) (show (0:Int)<(M.length:Int) by exact BL mQ) (Pg hl) (by wtm_at "o")).mono λv jt ⟨⟨d,h1,h2,h3⟩,w',D⟩=>?_
 subst h1
 obtain ⟨n,rfl⟩:∃n:Nat,d=n:=⟨d.toNat,by exact wW h2⟩
 have hn:n<M.length:=Il h3
 have NP:jt.get 0 m=some (.list (jM M)):=by rw [D.get _ _ (Im hm)];exact hM
 refine jY (item_str NP (Ph hl h3) (aR hn)) ?_
 exact q _ jt (dm hn) w' D
theorem Ob(hr:η.reg=0)(h1:1<η.ju)(w:lO η c)(hc:c<5000)(hk:20<=k){n:Nat}{N:Int}(hN:N=n)(hl:l.length=n)(hn:0<n)(sf:n<1000){Q:PV->AH->Prop}(q:∀v jt,v∈l->lO jt (c+1)->Kb [1] η jt->Q v jt):
  jw k (.st (.ref 1114)) [.ref 0 1,.int N] (η.add (.list l)) λkv jt=>∃v,jR tab (.ref η.reg η.ju) kv jt=some v/\Q v jt:=by
 subst hN
 refine (sF (w.kR ((Ke.refl η).add _).kR) (Ik hc) (show (0:Int)<(n:Int) by exact BL hn) (Pj sf) (by wtm_at "o")).mono λv jt ⟨⟨d,e1,e2,e3⟩,w',D⟩=>?_
 subst e1
 obtain ⟨i,rfl⟩:∃i:Nat,d=i:=⟨d.toNat,by exact wW e2⟩
 have hi:i<l.length:=Pk hl e3
 have hL:jt.get 0 η.ju=some (.list l):=by
  rw [D.get _ _ (Pp h1)]
  have:=AH.jT η (.list l)
  rw [hr] at this
  exact this
 rw [hr]
 refine jY (yk hL rfl (Pq sf e3) (aR hi)) ?_
 exact q _ jt (dm hi) w' ((Kb.refl.add _).dr D (by simp))
theorem om.kb{ex:List Nat}(E:om η hl)(K:Kb ex η jt)(h:8∉ex):om jt hl:=E.mono λo e=>K.get _ _ h e
structure HX(η:AH)(sp:List Str)(nt pT:Str)(c j:Nat)(jt:AH):Prop where
 has:∃hl,om jt hl/\uL sp nt pT hl/\hl.length<=10+j
 w:lO jt (c+1+5*j)
 kb:Kb [1,8] η jt
theorem anS(hr:η.reg=0)(hn:10<=η.ju)(h9:η.get 0 9=some (.sd lb ub))(hlb:lb.length<=100)(ZK:jv lb ou=some (.ref 0 8)){js:Nat}(yg:jv lb nJ=some (.ref 0 js)){sp:List Str}(Hv:10<=js)(hS:η.get 0 js=some (.list (jM sp)))(Oc:4<=sp.length)(G4:sp.length<=100)
   (E:om η hl) {nt pT:Str} (ok:uL sp nt pT hl) (hhl:hl.length<=10) (w:lO η c) (hc:c<500) {most:Nat} (qC:most=2\/most=5) (hK:40<=K) :
  jw K (.st (.ref 1133)) [.ref 0 1,.ref 0 9,.int most] η λv jt=>v=.none/\∃hl f u,om jt hl/\uL sp nt pT hl/\hl≠[]/\f∈sp/\jt.get 0 9=some (.sd (jN lb nc (.str f)) u)/\lO jt (c+40)/\Kb [1,8,9] η jt:=by
 refine jw.le (k:=40) ?_ hK
 refine jw.at (as:=[.ref 0 1,.ref 0 9,.int most]) 0 aln (by wtm_at "o") rfl (by kernel_rfl) ?_;intro _ _
 rw [show rq=cut 2 rq (kW 2 rq) from rfl]
 generalize qO:kW 2 rq=rest
 unfold rq
 dsimp only [cut]
 have ZL:jR tab (.ref 0 9) (.str nJ) η=some (.ref 0 js):=lV h9 yg
 wtm_at "W"
 refine (sF w (aa4 hc) (show (0:Int)<(most:Int) by exact aa5 qC) (aa6 qC) (by wtm_at "o")).mono λv jB ⟨⟨d,e1,e2,e3⟩,w1,D1⟩=>?_
 subst e1
 obtain ⟨n,rfl⟩:∃n:Nat,d=n:=⟨d.toNat,by exact wW e2⟩
 wtm_at "W"
 refine jw.nB (by wtm_at "o") (by intro _ h;cases h) (Dy (n:=n) (Pu qC e3)) ?_
 refine Gs (Pu qC e3) (λx:Jk=>[some (.ref 0 1),some (.ref 0 9),some (.int most),some (.ref 0 js),x 0,x 1,x 2,x 3,x 4,x 5,x 6]) (λj J jt=>HX η sp nt pT c j jt) (λi=>[_,_,_,_,_,_,_].getD i none) rfl ⟨⟨hl,E.dr D1,ok,hhl⟩,w1,Kb.refl.dr D1 (by simp)⟩ ?_ ?_
 ·intro x t jk jA hlen I GG qG
  obtain ⟨⟨zD,E2,CJ,l2⟩,w2,kb2⟩:=I
  refine ⟨_,rfl,?_⟩
  simp only [qR,qS]
  have r2:jA.reg=0:=kb2.reg.trans hr
  have n2:=kb2.ju
  have ZM:∀jt,Kb [1,8] η jt->jt.get 0 js=some (.list (jM sp)):=λjt K=>K.get _ _ (by simp;exact Pw Hv) hS
  wtm_at "W"
  refine ZJ w2 (aa7 hc qC e3 hlen) (dc rfl) (BJ Hv) (ZM _ kb2) (Px Oc) (Py G4) λsx jD ZN w3 D3=>?_
  have Bt:=kb2.dr D3 (by simp)
  have E3:=E2.dr D3
  clear D3
  wtm_at "W"
  refine (sF w3 (aa8 hc qC e3 hlen) (show (0:Int)<8 by decide) (dc rfl) (by wtm_at "o")).mono λv jV ⟨⟨wy,e1,e2,e3⟩,w4,D4⟩=>?_
  subst e1
  have tU:=Bt.dr D4 (by simp)
  have E4:=E3.dr D4
  have r4:jV.reg=0:=tU.reg.trans hr
  have n4:=tU.ju
  clear D4
  wtm_at "W"
  refine Ob (k:=40 - (12+0+1)) (n:=3) r4 (Io hn n4) w4 (aa9 hc qC (by assumption) hlen) (dc rfl) rfl rfl (dc rfl) (dc rfl) λsg kJ vD w5 D5=>?_
  have vK:=tU.trans D5 (by simp)
  have E5:=E4.kb D5 (by simp)
  clear D5
  obtain ⟨sg,rfl,Hw⟩:∃g:Str,sg=.str g/\(g=kU\/g=mq\/g=nQ):=by
   simp only [aB,aU,or_false] at vD
   rcases vD with h|h|h
   ·exact ⟨_,h,.inr (.inl rfl)⟩
   ·exact ⟨_,h,.inl rfl⟩
   ·exact ⟨_,h,.inr (.inr rfl)⟩
  wtm_at "W"
  refine (sF w5 (abb hc qC (by assumption) hlen) (show (0:Int)<4 by decide) (dc rfl) (by wtm_at "o")).mono λv oF ⟨⟨d4,e1,_,_⟩,w6,D6⟩=>?_
  subst e1
  have uM:=vK.dr D6 (by simp)
  have E6:=E5.dr D6
  clear D6
  have tail:∀(mK:AH) (o:Str) (Hx:Option PV) (P:QS),o∈sp->lO mK (c+1+5*(x+1))->Kb [1,8] η mK->om mK zD->(∀o' p9,HX η sp nt pT c (x+1) (mK.set 0 8 o')->P .next [some (.ref 0 1),some (.ref 0 9),some (.int most),some (.ref 0 js),some (.int x),some (.str sx),some (.int wy),some (.str sg),some (.str o),p9,Hx] (mK.set 0 8 o'))->WS (40 - (12+0+1)) (match kW 1 rq with
  |.cons (.for _ _ _ b) _=>kW 3 b
  |_=>.nil) 0 [some (.ref 0 1),some (.ref 0 9),some (.int most),some (.ref 0 js),some (.int x),some (.str sx),some (.int wy),some (.str sg),some (.str o),jk 5,Hx] mK P:=by
   intro mK o Hx P ho w7 vJ E7 q7
   unfold rq
   dsimp only [kW]
   have Od:=vJ.get 9 _ (dc rfl) h9
   have ih:jR tab (.ref 0 9) (.str ou) mK=some (.ref 0 8):=lV Od ZK
   have fin:∀(s g:Str) (o':AO),(s=sV\/s=nH\/s=lN)->(g=kU\/g=mq\/g=nQ)->om (mK.set 0 8 o') (jN zD sx (s,g,o))->HX η sp nt pT c (x+1) (mK.set 0 8 o'):=λs g o' hs hg hE=>by
    refine rH (w7.at_) λg' b' n' hw uK=>?_
    exact ⟨⟨_,hE,CJ.put ZN hs hg ho,ah (Zr _ _ _) (abd l2)⟩,⟨g',b',n',by rw [AH.ka (dc rfl)];exact hw,uK⟩,vJ.set (.inl (by simp)) _⟩
   have Oe:zD.length<=100:=abe qC (by assumption) l2 hlen
   wtm_at "W"
   by_cases h5:wy=5
   ·rw [show decide (wy=5)=true from decide_eq_true h5]
    refine jZ (E7.put Oe sx (nH,kU,o)) λo' p1 p2=>?_
    have p1:nv (.ref 0 8) (.str sx) (.tup [.str nH,.str kU,.str o]) mK=_:=p1
    wtm_at "W"
    exact q7 _ _ (fin nH kU o' (.inr (.inl rfl)) (.inl rfl) p2)
   ·rw [show decide (wy=5)=false from decide_eq_false h5]
    wtm_at "W"
    by_cases h6:5<wy
    ·rw [show decide (5<wy)=true from decide_eq_true h6]
     refine jZ (E7.put Oe sx (lN,sg,o)) λo' p1 p2=>?_
     have p1:nv (.ref 0 8) (.str sx) (.tup [.str lN,.str sg,.str o]) mK=_:=p1
     wtm_at "W"
     exact q7 _ _ (fin lN sg o' (.inr (.inr rfl)) Hw p2)
    ·rw [show decide (5<wy)=false from decide_eq_false h6]
     refine jZ (E7.put Oe sx (sV,sg,o)) λo' p1 p2=>?_
     have p1:nv (.ref 0 8) (.str sx) (.tup [.str sV,.str sg,.str o]) mK=_:=p1
     wtm_at "W"
     exact q7 _ _ (fin sV sg o' (.inl rfl) Hw p2)
  iterate 2 wtm_at "s"
  by_cases h0:d4=0
  ·rw [show decide (d4=0)=true from decide_eq_true h0]
   wtm_at "W"
   refine ZJ w6 (abf hc qC (by assumption) hlen) (dc rfl) (BJ Hv) (ZM _ uM) (Px Oc) (Py G4) λox mK hox w7 D7=>?_
   iterate 2 wtm_at "s"
   exact tail _ _ _ _ hox (w7.le (abg)) (uM.dr D7 (by simp)) (E6.dr D7) λo' p9 I=>qG (λi=>([some (.int x),some (.str sx),some (.int wy),some (.str sg),some (.str ox),p9,jk 6]:Sl).getD i none) _ I
  ·rw [show decide (d4=0)=false from decide_eq_false h0]
   iterate 2 wtm_at "s"
   exact tail _ _ _ _ ZN (w6.le (abh)) uM E6 λo' p9 I=>qG (λi=>([some (.int x),some (.str sx),some (.int wy),some (.str sg),some (.str sx),p9,jk 6]:Sl).getD i none) _ I
 ·intro jk jA I
  obtain ⟨⟨zD,E2,CJ,l2⟩,w2,kb2⟩:=I
  have r2:jA.reg=0:=kb2.reg.trans hr
  have n2:=kb2.ju
  rw [<-qO,show kW 2 rq=cut 1 (kW 2 rq) (kW 3 rq) from rfl]
  generalize anT:kW 3 rq=anU
  unfold rq
  dsimp only [kW,cut]
  have tail:∀(jD:AH) (at_:Nat),at_<4->lO jD (c+30)->Kb [1,8] η jD->om jD zD->WS (40 - (12+0+1)) anU 0 [some (.ref 0 1),some (.ref 0 9),some (.int most),some (.ref 0 js),jk 0,jk 1,jk 2,jk 3,jk 4,jk 5,some (.int at_)] jD (nK λv jt=>v=.none/\∃hl f u,om jt hl/\uL sp nt pT hl/\hl≠[]/\f∈sp/\jt.get 0 9=some (.sd (jN lb nc (.str f)) u)/\lO jt (c+40)/\Kb [1,8,9] η jt):=by
   intro jD at_ uI w3 Bt E3
   have r3:jD.reg=0:=Bt.reg.trans hr
   have hS3:=Bt.get js _ (by simp;exact Pw Hv) hS
   have ZO:=Bt.get 9 _ (dc rfl) h9
   have qN:at_<sp.length:=abi Oc uI
   have if3:jR tab (.ref 0 js) (.int at_) jD=some (.str sp[at_]):=item_str hS3 (abj uI) (aR qN)
   have hf:sp[at_]∈sp:=dm qN
   generalize sp[at_]=f at if3 hf
   rw [<-anT]
   unfold rq
   dsimp only [kW]
   wtm_at "W"
   refine jY (zh ZO (BK hlb)) ?_
   have tU:Kb [1,8,9] η (jD.set 0 9 (.sd (jN lb nc (.str f)) (ub+1))):=((Kb.refl).trans Bt (by simp)).set (.inl (by simp)) _
   have DN:(jD.set 0 9 (.sd (jN lb nc (.str f)) (ub+1))).get 0 9=some (.sd (jN lb nc (.str f)) (ub+1)):=AH.lG ZO
   have E4:om (jD.set 0 9 (.sd (jN lb nc (.str f)) (ub+1))) zD:=E3.mono λo e=>by rw [AH.ka (dc rfl)];exact e
   have w4:lO (jD.set 0 9 (.sd (jN lb nc (.str f)) (ub+1))) (c+30):=by
    refine rH (w3.at_) λg' b' n' hw uK=>?_
    exact ⟨g',b',n',by rw [AH.ka (dc rfl)];exact hw,uK⟩
   revert tU DN E4 w4
   generalize jD.set 0 9 (.sd (jN lb nc (.str f)) (ub+1))=jV
   intro tU DN E4 w4
   have r4:jV.reg=0:=tU.reg.trans hr
   have n4:=tU.ju
   wtm_at "W"
   refine Ob (k:=40 - (12+0+1)) (n:=4) r4 (Io hn n4) w4 (abk hc) (dc rfl) rfl rfl (dc rfl) (dc rfl) λsg kJ vD w5 D5=>?_
   have vK:=tU.trans D5 (by simp)
   have E5:=E4.kb D5 (by simp)
   have Bu:=D5.get 9 _ (dc rfl) DN
   obtain ⟨sg,rfl,Hw⟩:∃g:Str,sg=.str g/\(g=kU\/g=mq\/g=nQ):=by
    simp only [aB,aU,or_false] at vD
    rcases vD with h|h|h|h
    ·exact ⟨_,h,.inr (.inl rfl)⟩
    ·exact ⟨_,h,.inr (.inl rfl)⟩
    ·exact ⟨_,h,.inr (.inl rfl)⟩
    ·exact ⟨_,h,.inr (.inr rfl)⟩
   have aq7:jR tab (.ref 0 9) (.str ou) kJ=some (.ref 0 8):=lV Bu (by rw [v5,if_neg (by decide +kernel)];exact ZK)
   have aq8:jR tab (.ref 0 9) (.str nc) kJ=some (.str f):=lV Bu (by rw [v5,if_pos rfl])
   refine jZ (E5.put (abl qC e3 l2) f (sV,sg,f)) λo' p1 p2=>?_
   have p1:nv (.ref 0 8) (.str f) (.tup [.str sV,.str sg,.str f]) kJ=_:=p1
   wtm_at "W"
   refine rH (w5.at_) λg' b' n' hw uK=>?_
   refine wI ⟨rfl,_,f,ub+1,p2,CJ.put hf (.inl rfl) Hw hf,?_,hf,by rw [AH.ka (dc rfl)];exact Bu,⟨g',b',n',by rw [AH.ka (dc rfl)];exact hw,by exact abm uK⟩,vK.set (.inl (by simp)) _⟩
   intro h
   have:=congrArg gp h
   induction zD using List.casesOn with
  |nil=>cases h
  |cons a t=>
    unfold jN at h
    obtain ⟨a1,a2⟩:=a
    cases hq:sq a1 f<;>rw [hq] at h<;>cases h
  rcases qC with rfl|rfl
  ·wtm_at "W"
   exact tail _ 0 (dc rfl) (w2.le (abn e3)) kb2 E2
  ·wtm_at "W"
   refine Ob (k:=40 - (12+0+1)) (n:=6) r2 (Io hn n2) w2 (abo hc e3) (dc rfl) rfl rfl (dc rfl) (dc rfl) λsg kJ vD w5 D5=>?_
   obtain ⟨at_,rfl,uI⟩:∃i:Nat,sg=.int i/\i<4:=by
    simp only [aB,aU,or_false] at vD
    rcases vD with h|h|h|h|h|h
    ·exact ⟨0,h,by decide⟩
    ·exact ⟨0,h,by decide⟩
    ·exact ⟨0,h,by decide⟩
    ·exact ⟨1,h,by decide⟩
    ·exact ⟨2,h,by decide⟩
    ·exact ⟨3,h,by decide⟩
   iterate 1 wtm_at "s"
   exact tail _ at_ uI (w5.le (abp e3)) (kb2.trans D5 (by simp)) (E2.kb D5 (by simp))
end
theorem jw.atM(N:Nat){n:Nat}{a:Addr}{as:List PV}{Q:PV->AH->Prop}(w:Nat)(hc:codeOf tab a n=some (nn,ss))(hK:n+w+1<=K)(hm:MK.any (aj · a)=true)(hb:s7 tab a vs=some as)
  (hw:let e':=e;let q:=nK λv η=>Q v η.fresh;WS (K - (n+w+1)) ss w e' η q) (he:pI as N=e:=by (try dsimp only [pI,dW,bq,bW,bN])<;>rfl):jw K (.st (.ref a)) vs η Q:=by
 have:=jw.KS (k:=K - (n+w+1)) (Q:=Q) (N:=N) w hc hb (by unfold mk;rw [hm];exact he▸hw)
 rw [show K - (n+w+1)+n+w+1=K by exact Ed hK] at this
 exact this
def vL(nm nt:Str):Str:=if nm=uq\/(nt=kO/\nm=uv) then nQ else kU
def mH(nm nt:Str):List (Str×PV):=[(pW,.ref 0 5),(pX,.ref 0 6),(mW,.ref 0 7),(ou,.ref 0 8),(nX,.str nm),(lu,.str nt)]
structure zE(hk:Bool)(al:Nat)(nm nt f:Str)(fl ml:Rows)(hl:pR)(η:AH):Prop where
 Bv:al<4
 names:nm=Cu\/nm=uv\/nm=uq
 wJ:nt=kT\/nt=kO\/nt=kG\/nt=kH
 first:f∈mP hk al
 above:∃u,η.get 0 5=some (.sd (lH (oQ hk al)) u)
 front:mL η 6 fl
 mixed:mL η 7 ml
 uN:oR hk al fl
 sI:oR hk al ml
 anV:fl.length<=3
 anW:ml.length<=3
 has:om η hl
 sJ:uL (mP hk al) nt (vL nm nt) hl
 mQ:hl≠[]
 bk:∃d u,η.get 0 9=some (.sd d u)/\jv d pW=some (.ref 0 5)/\jv d pX=some (.ref 0 6)/\jv d mW=some (.ref 0 7)/\jv d ou=some (.ref 0 8)/\jv d nX=some (.str nm)/\jv d lu=some (.str nt)/\jv d nc=some (.str f)
 bkx:∃js u,η.get 0 9=some (.sd (jN (mH nm nt++[(nJ,.ref 0 js)]) nc (.str f)) u)
 well:lO η 60
 reg:η.reg=0
section
theorem ZP(hr:η.reg=0)(h1:1<η.ju)(w:lO η c)(hc:c<5000)(hk:20<=k){n:Nat}{N:Int}(hN:N=n)(hl:l.length=n)(hn:0<n)(sf:n<1000){Q:PV->AH->Prop}(q:∀v jt,v∈l->lO jt (c+1)->Dr (η.add (.list l)) jt->Q v jt):
  jw k (.st (.ref 1114)) [.ref 0 1,.int N] (η.add (.list l)) λkv jt=>∃v,jR tab (.ref η.reg η.ju) kv jt=some v/\Q v jt:=by
 subst hN
 refine (sF (w.kR ((Ke.refl η).add _).kR) (Ik hc) (show (0:Int)<(n:Int) by exact BL hn) (Pj sf) (by wtm_at "o")).mono λv jt ⟨⟨d,e1,e2,e3⟩,w',D⟩=>?_
 subst e1
 obtain ⟨i,rfl⟩:∃i:Nat,d=i:=⟨d.toNat,by exact wW e2⟩
 have hi:i<l.length:=Pk hl e3
 have hL:jt.get 0 η.ju=some (.list l):=by
  rw [D.get _ _ (Pp h1)]
  have:=AH.jT η (.list l)
  rw [hr] at this
  exact this
 rw [hr]
 refine jY (yk hL rfl (Pq sf e3) (aR hi)) ?_
 exact q _ jt (dm hi) w' D
theorem anY(hK:10<=K):jw K (.st (.ref 1065)) [] η λv jt=>v=.ref η.reg η.ju/\jt=η.add (.sd (lH mS) 0):=by
 refine jw.le (k:=10) ?_ hK
 refine jw.at (as:=[]) 0 alc (by wtm_at "o") rfl (by kernel_rfl) ?_;intro _ _
 unfold WO
 wtm_at "W"
 exact jO ⟨rfl,rfl⟩
theorem anZ{r:Nat}{l:List (Str×PV)}(h:η.get r i=some (.sd l u))(hl:l.length<=65536):qF tab (.type "dict") [.ref r i] η=some (.ref η.reg η.ju,η.add (.sd l 0)):=jQ (o:=xr (.ref r i) η) (Xj h) (lA (mh hl) rfl)
theorem an0{nt:Str}(h:nt=kO\/nt=kG\/nt=kH):nt∈mP hk al:=by
 unfold mP
 refine jq _ ?_
 rcases h with rfl|rfl|rfl<;>decide +kernel
theorem Hy{α:Type}{c:Prop}[Decidable c]{x:α}:(if c then [x] else []).length<=1:=by
 split
 ·exact ak 1
 ·exact bx 1
theorem Og:4<=(mP hk al).length/\(mP hk al).length<=100:=by
 unfold mP
 rw [aE,aE,aE,aE]
 exact ⟨ah (dc rfl) (bR 9 _),ah (aK (aK (aK (aK Hy Hy) Hy) Hy) (ak 9)) (dc rfl)⟩
theorem an1(nm nt:Str)(v:PV):jN (mH nm nt) nJ v=mH nm nt++[(nJ,v)]:=by kernel_rfl
theorem mL.kb{ex:List Nat}(R:mL η i fl)(K:Kb ex η jt)(h:∀e∈ex,e<10/\e≠i):mL jt i fl:=by
 refine ⟨?_,λp hp=>⟨(R.row p hp).1,K.get _ _ (λq=>by have:=h _ q;have:=(R.row p hp).1;exact adt (by assumption) this) (R.row p hp).2⟩⟩
 rcases R.at_ with ⟨h1,h2⟩|⟨u,h1⟩
 ·exact .inl ⟨h1,K.get _ _ (λq=>(h _ q).2 rfl) h2⟩
 ·exact .inr ⟨u,K.get _ _ (λq=>(h _ q).2 rfl) h1⟩
theorem an2(hr:η.reg=0)(hn:η.ju=2)(w:lO η 0){most:Nat}(qC:most=2\/most=5)(hK:100<=K){Q:PV->AH->Prop}(q:∀{jB hk al nm nt f fl ml hl},zE hk al nm nt f fl ml hl jB->Q (.ref 0 9) jB.fresh):
  jw K (.st (.ref 1140)) [.ref 0 1,.int most] η Q:=by
 refine jw.le (k:=100) ?_ hK
 refine jw.atM 4 (as:=[.ref 0 1,.int most]) 0 alo (by wtm_at "o") rfl (by kernel_rfl) ?_;intro _ _
 rw [show zf=cut 4 zf (kW 4 zf) from rfl]
 generalize qO:kW 4 zf=rest
 unfold zf
 dsimp only [cut]
 wtm_at "W"
 refine ZP (k:=100 - (10+0+1)) (n:=3) hr (adu hn) w (dc rfl) (dc rfl) rfl rfl (dc rfl) (dc rfl) λnm jB A3 w1 D1=>?_
 obtain ⟨nm,rfl,ZQ⟩:∃g:Str,nm=.str g/\(g=Cu\/g=uv\/g=uq):=by
  simp only [aB,aU,or_false] at A3
  rcases A3 with h|h|h
  ·exact ⟨_,h,.inl rfl⟩
  ·exact ⟨_,h,.inr (.inl rfl)⟩
  ·exact ⟨_,h,.inr (.inr rfl)⟩
 have r1:jB.reg=0:=D1.reg.trans hr
 have n1:jB.ju=3:=by rw [D1.ju,AH.nU,hn]
 clear D1
 wtm_at "W"
 refine ZP (k:=100 - (10+0+1)) (n:=4) r1 (adv n1) w1 (dc rfl) (dc rfl) rfl rfl (dc rfl) (dc rfl) λnt jA nF w2 D2=>?_
 obtain ⟨nt,rfl,DS⟩:∃g:Str,nt=.str g/\(g=kT\/g=kO\/g=kG\/g=kH):=by
  simp only [aB,aU,or_false] at nF
  rcases nF with h|h|h|h
  ·exact ⟨_,h,.inl rfl⟩
  ·exact ⟨_,h,.inr (.inl rfl)⟩
  ·exact ⟨_,h,.inr (.inr (.inl rfl))⟩
  ·exact ⟨_,h,.inr (.inr (.inr rfl))⟩
 have r2:jA.reg=0:=D2.reg.trans r1
 have n2:jA.ju=4:=by rw [D2.ju,AH.nU,n1]
 clear D2
 have tail:∀(jV:AH) (Bw:pR) (x:Option PV) (ub:Nat),jV.reg=0->jV.ju=10->lO jV 2->jV.get 0 9=some (.sd (mH nm nt) ub)->(∃u,jV.get 0 5=some (.sd (lH mS) u))->jV.get 0 6=some .jE->jV.get 0 7=some .jE->om jV Bw->((nt=kT/\Bw=[])\/(nt≠kT/\Bw=[(nt,(lu,vL nm nt,nt))]))->
   WS (100 - (10+0+1)) rest 0 [some (.ref 0 1),some (.int most),some (.str nm),some (.str nt),some (.ref 0 9),x] jV (nK λv η=>Q v η.fresh):=by
  intro jV Bw x ub r4 n4 w4 h9 ⟨u5,h5⟩ h6 h7 E4 hh
  rw [<-qO]
  unfold zf
  dsimp only [kW]
  wtm_at "W"
  refine (anH r4 (adw n4) w4 (dc rfl) h9 (by kernel_rfl) h5 (by wtm_at "o")).mono λv kJ lX=>?_
  refine Qz (lX) λhk al j u' mG e1 hj hS w5 vK NX=>?_
  subst e1
  have Bu:=vK.get 9 _ (dc rfl) h9
  wtm_at "W"
  refine jY (zh Bu (by simp [mH])) ?_
  have uM:Kb [1,5,9] jV (kJ.set 0 9 (.sd (jN (mH nm nt) nJ (.ref 0 j)) (ub+1))):=(Kb.refl.trans vK (by simp)).set (.inl (by simp)) _
  have Hz:(kJ.set 0 9 (.sd (jN (mH nm nt) nJ (.ref 0 j)) (ub+1))).get 0 9=some (.sd (mH nm nt++[(nJ,.ref 0 j)]) (ub+1)):=by
   rw [AH.lG Bu,an1]
  have Oh:(kJ.set 0 9 (.sd (jN (mH nm nt) nJ (.ref 0 j)) (ub+1))).get 0 j=some (.list (jM (mP hk al))):=by rw [AH.ka (adx n4 hj)];exact hS
  have HC:(kJ.set 0 9 (.sd (jN (mH nm nt) nJ (.ref 0 j)) (ub+1))).get 0 5=some (.sd (lH (oQ hk al)) u'):=by rw [AH.ka (dc rfl)];exact NX
  have w6:lO (kJ.set 0 9 (.sd (jN (mH nm nt) nJ (.ref 0 j)) (ub+1))) 4:=by
   refine rH (w5.at_) λg' b' n' hw uK=>?_
   exact ⟨g',b',n',by rw [AH.ka (dc rfl)];exact hw,uK⟩
  revert uM Hz Oh HC w6
  generalize kJ.set 0 9 (.sd (jN (mH nm nt) nJ (.ref 0 j)) (ub+1))=oF
  intro uM Hz Oh HC w6
  have r6:oF.reg=0:=uM.reg.trans r4
  have n6:=uM.ju
  wtm_at "W"
  refine (anQ r6 (Iz n4 n6) Hz (by kernel_rfl) (by kernel_rfl) (by kernel_rfl) mG HC (uM.get 6 _ (dc rfl) h6) (uM.get 7 _ (dc rfl) h7) w6 (dc rfl) (by wtm_at "o")).mono λv mK qq=>jP qq λe1 qq=>wY qq λfl ml R6 R7 Br Bs l6 l7 w7 vJ=>?_
  subst e1
  have Oi:Kb [1,5,6,7,9] jV mK:=(Kb.refl.trans uM (by simp)).trans vJ (by simp)
  have r7:mK.reg=0:=Oi.reg.trans r4
  have Od:=vJ.get 9 _ (dc rfl) Hz
  have hS7:=vJ.get j _ (by simp;exact ady n4 hj) Oh
  have E7:=E4.kb Oi (dc rfl)
  have okh:uL (mP hk al) nt (vL nm nt) Bw:=by
   rcases hh with ⟨h1,rfl⟩|⟨h1,rfl⟩
   ·exact ⟨λp h=>(nomatch h),dJ,λh=>absurd h1 h⟩
   ·have uz:nt∈mP hk al:=an0 (DS.resolve_left h1)
    refine ⟨λp hp=>?_,by simp,λJ=>by simp⟩
    rw [aJ.mp hp]
    exact ⟨uz,.inr ⟨rfl,rfl,rfl,rfl,h1⟩⟩
  have an3:Bw.length<=10:=by rcases hh with ⟨_,rfl⟩|⟨_,rfl⟩<;>simp
  have n7:=Oi.ju
  refine ⟨rfl,?_⟩
  wtm_at "W"
  refine (anS r7 (Iz n4 n7) Od (by simp [mH]) (by kernel_rfl) (by kernel_rfl) (js:=j) (Iz n4 hj) hS7 Og.1 Og.2 E7 okh an3 w7 (dc rfl) qC (by wtm_at "o")).mono λv wO qq=>jP qq λe1 qq=>ae0 qq λhl f u8 E8 ok8 ne8 hf Ht w8 yo=>?_
  subst e1
  refine ⟨rfl,?_⟩
  wtm_at "W"
  refine jO (q ⟨mG,ZQ,DS,hf,⟨u',yo.get 5 _ (dc rfl) (vJ.get 5 _ (dc rfl) HC)⟩,R6.kb yo (dc rfl),R7.kb yo (dc rfl),Br,Bs,l6,l7,E8,ok8,ne8,⟨_,_,Ht,by kernel_rfl,by kernel_rfl,by kernel_rfl,by kernel_rfl,by kernel_rfl,by kernel_rfl,by kernel_rfl⟩,⟨_,_,Ht⟩,w8.le (dc rfl),yo.reg.trans r7⟩)
 wtm_at "W"
 refine (anY (by wtm_at "o")).is1 λjt h2=>?_
 subst h2
 have hA:=AH.jT jA (.sd (lH mS) 0)
 wtm_at "W"
 refine jw.nB (by wtm_at "o") (by intro _ h;cases h) (anZ hA (dc rfl)) ?_
 repeat' wtm_at "u"
 unfold W6
 simp only [AH.oh,AH.nU,r2,n2]
 have e:jN (jN (jN (jN (jN (jN [] pW (.ref 0 (4+1))) pX (.ref 0 (4+1+1))) mW (.ref 0 (4+1+1+1))) ou (.ref 0 (4+1+1+1+1))) nX (.str nm)) lu (.str nt)=mH nm nt:=by kernel_rfl
 rw [e]
 have K3:Ke jA ((((((jA.add (.sd (lH mS) 0)).add (.sd (lH mS) 0)).add .jE).add .jE).add .jE).add (.sd (mH nm nt) 0)):=((((((Ke.refl _).add _).add _).add _).add _).add _).add _
 have g5:((((((jA.add (.sd (lH mS) 0)).add (.sd (lH mS) 0)).add .jE).add .jE).add .jE).add (.sd (mH nm nt) 0)).get 0 5=some (.sd (lH mS) 0):=by simp [AH.xq,AH.nU,AH.oh,r2,n2]
 have g6:((((((jA.add (.sd (lH mS) 0)).add (.sd (lH mS) 0)).add .jE).add .jE).add .jE).add (.sd (mH nm nt) 0)).get 0 6=some .jE:=by simp [AH.xq,AH.nU,AH.oh,r2,n2]
 have g7:((((((jA.add (.sd (lH mS) 0)).add (.sd (lH mS) 0)).add .jE).add .jE).add .jE).add (.sd (mH nm nt) 0)).get 0 7=some .jE:=by simp [AH.xq,AH.nU,AH.oh,r2,n2]
 have g8:((((((jA.add (.sd (lH mS) 0)).add (.sd (lH mS) 0)).add .jE).add .jE).add .jE).add (.sd (mH nm nt) 0)).get 0 8=some .jE:=by simp [AH.xq,AH.nU,AH.oh,r2,n2]
 have g9:((((((jA.add (.sd (lH mS) 0)).add (.sd (lH mS) 0)).add .jE).add .jE).add .jE).add (.sd (mH nm nt) 0)).get 0 9=some (.sd (mH nm nt) 0):=by simp [AH.xq,AH.nU,AH.oh,r2,n2]
 have gn:((((((jA.add (.sd (lH mS) 0)).add (.sd (lH mS) 0)).add .jE).add .jE).add .jE).add (.sd (mH nm nt) 0)).ju=10:=by simp [AH.nU,n2]
 revert K3 g5 g6 g7 g8 g9 gn
 generalize ((((((jA.add (.sd (lH mS) 0)).add (.sd (lH mS) 0)).add .jE).add .jE).add .jE).add (.sd (mH nm nt) 0))=jV
 intro K3 g5 g6 g7 g8 g9 gn
 have r4:jV.reg=0:=K3.reg.trans r2
 have w4:=w2.kR K3.kR
 wtm_at "W"
 have ih:jR tab (.ref 0 9) (.str ou) jV=some (.ref 0 8):=lV g9 (by kernel_rfl)
 by_cases DT:nt=kT
 ·have:sq nt kT=true:=kj.mpr DT
  rw [this]
  wtm_at "W"
  exact tail _ [] _ 0 r4 gn w4 g9 ⟨_,g5⟩ g6 g7 (.inl ⟨rfl,g8⟩) (.inl ⟨DT,rfl⟩)
 ·have:sq nt kT=false:=by
   induction h:sq nt kT using Bool.casesOn with
  |false=>rfl
  |true=>exact absurd (kj.mp h) DT
  rw [this]
  have go:∀(x:Option PV) (g:Str),g=vL nm nt->WS (100 - (10+0+1)) rest 0 [some (.ref 0 1),some (.int most),some (.str nm),some (.str nt),some (.ref 0 9),x] (jV.set 0 8 (.sd [(nt,.tup [.str lu,.str g,.str nt])] 0)) (nK λv η=>Q v η.fresh):=by
   intro x g hg
   refine rH (w4.at_) λg' b' n' hw uK=>?_
   refine tail _ [(nt,(lu,vL nm nt,nt))] _ 0 (by rw [AH.zg];exact r4) (by rw [AH.AG];exact gn) ⟨g',b',n',by rw [AH.ka (dc rfl)];exact hw,uK⟩ (by rw [AH.ka (dc rfl)];exact g9) ⟨0,by rw [AH.ka (dc rfl)];exact g5⟩ (by rw [AH.ka (dc rfl)];exact g6) (by rw [AH.ka (dc rfl)];exact g7) (.inr ⟨0,?_⟩) (.inr ⟨DT,rfl⟩)
   rw [AH.lG g8,hg]
   rfl
  have pt:∀g:Str,nv (.ref 0 8) (.str nt) (.tup [.str lu,.str g,.str nt]) jV=some (jV.set 0 8 (.sd [(nt,.tup [.str lu,.str g,.str nt])] 0)):=λg=>by
   exact AI g8
  have p1:=pt nQ
  have p2:=pt kU
  clear pt
  rcases ZQ with rfl|rfl|rfl
  ·wtm_at "W"
   exact go _ _ (by rcases DS with rfl|rfl|rfl|rfl<;>decide +kernel)
  ·rcases DS with rfl|rfl|rfl|rfl
   ·exact absurd rfl DT
   ·wtm_at "W"
    exact go _ _ (by decide +kernel)
   ·wtm_at "W"
    exact go _ _ (by decide +kernel)
   ·wtm_at "W"
    exact go _ _ (by decide +kernel)
  ·wtm_at "W"
   exact go _ _ (by rcases DS with rfl|rfl|rfl|rfl<;>decide +kernel)
end
set_option backward.match.sparseCases true
set_option genCtorIdx false in
structure MI where
 kQ:Nat
 num:Int
 cls:Bool
 jJ:Option Str
 nj:Bool
 own:Option Str
 owner:Str
 nat:Option Str
 nD:Nat
 nq:Nat
 kX:Nat
 depth:Nat
 rank:Nat
noncomputable def rf(b i:Nat):PV:=cond (aj i 0) .none (.ref 1 (b+i))
noncomputable def op:Option Str->PV
|none=>.none
|some s=>.str s
def mo(b a n ow own:Nat)(nm:Option Str)(c:Bool)(p mx at':Nat)(nt:Option Str)(L:List AO):List AO:=.inst 226 [(mX,.int n),(l0,rf b ow),(z5,rf b (a+1)),(nY,rf b own),(z6,.bool false),(z8,.none),(nX,op nm),(rW,.bool c),(rg,rf b p),(z9,.none),(q9,rf b (a+2)),(Fc,rf b (a+3)),(mW,rf b mx),(sS,rf b (a+5)),(uY,rf b at'),(lu,op nt),(nP,.none)]::.jE::.jE::.jE::.list []::.list []::L
noncomputable def oc(o:AO)(L:List AO):List AO:=o::L
def th(b a n ow own:Nat)(L:List AO):List AO:=.inst 38 [(mX,.int n),(l0,rf b ow),(z5,rf b (a+1)),(nY,rf b own),(z6,.bool false),(z8,.none)]::.jE::L
def dM(b:Nat)(L:List (Str×PV))(u:Nat):AO:=.sd ((kZ,rf b 7)::(kO,rf b 35)::(kG,rf b 48)::(kH,rf b 69)::(jU,rf b 76)::(jK,rf b 82)::(lQ,rf b 88)::(j6,rf b 94)::(lJ,rf b 100)::L) u
def dP(b:Nat):AO:=.sd [(kZ,rf b 7),(m9,rf b 13),(jS,rf b 19),(lZ,rf b 25),(kO,rf b 35),(kG,rf b 48),(qJ,rf b 54),(qI,rf b 61),(kH,rf b 69)] 8
def dN(b:Nat):AO:=.sd [(uo,.int 5),(vd,.none),(m9,rf b 13),(mj,rf b 107),(qK,rf b 109),(pP,rf b 111),(qv,rf b 113),(jK,rf b 82),(jU,rf b 76),(lQ,rf b 88),(j6,rf b 94)] 8
def h1(b:Nat)(p0:PV)(p1:PV)(p2:AO)(p3:Nat)(p4:Nat)(L:List AO):List AO:=oc (.inst 1054 [(wu,(.ref 1 b)),(wz,(rf b 2)),(Fj,.none),(JS,(.int 20000)),(JW,(.int 0)),(Ct,p0),(JQ,(.int 8)),(JV,(rf b 3)),(ur,(rf b 4)),(sW,p1),(JL,(.int 0)),(JN,(rf b 5)),(JT,(rf b 6)),(JP,.none),(Cr,(.bool true)),(JR,(rf b 42))]) <|
 oc .jE <|
 oc .jE <|
 oc p2 <|
 oc .jE <|
 oc (.list []) <|
 mo b 7 2 19 p3 (some kZ) true 13 34 0 (some kZ) <|
 mo b 13 3 19 p4 (some m9) true 0 33 0 (some m9) <|
 mo b 19 4 19 0 (some jS) true 25 32 0 (some jS) <|
 mo b 25 5 19 0 (some lZ) true 7 31 0 (some lZ) <|
 oc (.list []) <|
 oc (.list []) <|
 oc (.list []) <|
 oc (.list [(rf b 35)]) <|
 mo b 35 6 25 0 (some kO) false 0 41 0 (some kO) <|
 oc (.list []) <|
 th b 42 1 7 0 <|
 oc (.list [(.str kZ),(.str m9),(.str jS),(.str lZ),(.str kO)]) L
def h2(b:Nat)(p0:AO)(p1:AO)(L:List AO):List AO:=oc p0 <|
 oc p1 <|
 oc (.list [(.str kZ),(.str kO),(.str kG),(.str kH)]) <|
 mo b 48 7 19 0 (some kG) true 54 68 0 (some kG) <|
 mo b 54 8 19 0 (some qJ) true 7 60 0 (some qJ) <|
 oc (.list [(rf b 61)]) <|
 mo b 61 9 25 0 (some qI) false 0 67 0 (some qI) <|
 oc (.list []) <|
 oc (.list []) <|
 mo b 69 10 19 0 (some kH) true 7 75 0 (some kH) <|
 oc (.list []) L
def h3(b:Nat)(p0:Nat)(p1:Nat)(p2:Nat)(p3:Nat)(L:List AO):List AO:=mo b 76 11 19 p0 (some jU) true 7 80 0 none <|
 mo b 82 12 19 p1 (some jK) true 76 86 0 none <|
 mo b 88 13 19 0 (some lQ) true 76 92 0 none <|
 mo b 94 14 25 p2 (some j6) false 0 98 0 none <|
 mo b 100 15 25 0 (some lJ) false 0 104 0 none <|
 oc (.list [(.tup [(.str mj),(.str jK)]),(.tup [(.str qK),(.str jK)]),(.tup [(.str pP),(.str jU)]),(.tup [(.str qv),(.str lQ)])]) <|
 th b 107 16 82 p3 <|
 th b 109 17 82 0 <|
 th b 111 18 76 0 <|
 th b 113 19 88 0 <|
 oc (.list [(.str jK),(.str jU),(.str lQ),(.str j6)]) L
def hW(b:Nat):List AO:=h1 b (.int 6) (.int 0) (.sd [(kZ,(rf b 7)),(m9,(rf b 13)),(jS,(rf b 19)),(lZ,(rf b 25)),(kO,(rf b 35))] 4) 0 0 []
def hA(b:Nat):List AO:=h1 b (.int 10) (.int 0) (dP b) 0 0 <|
 h2 b (.sd [(kZ,(rf b 7)),(kO,(rf b 35)),(kG,(rf b 48)),(kH,(rf b 69))] 3) (.sd [(uo,(.int 5)),(vd,.none),(m9,(rf b 13))] 0) []
def hB(b:Nat):List AO:=h1 b (.int 19) (.int 0) (dP b) 0 0 <|
 h2 b (dM b [] 8) (dN b) <|
 h3 b 0 0 0 0 []
def an4(b:Nat):List AO:=h1 b (.int 23) (.int 4) (dP b) 124 118 <|
 h2 b (dM b [(lM,(rf b 136)),(ku,(rf b 130))] 10) (dN b) <|
 h3 b 130 136 0 0 <|
 oc (.list [(.str mj),(.str jK),(.str jU),(.str j6)]) <|
 oc (.list [(rf b 82),(rf b 76),(rf b 7),(rf b 13)]) <|
 mo b 118 20 19 0 none true 19 122 13 (some xE) <|
 mo b 124 21 19 0 none true 118 128 7 (some xF) <|
 mo b 130 22 19 0 none true 124 134 76 none <|
 mo b 136 23 19 0 none true 130 140 82 none <|
 oc (.list []) []
def an5(b:Nat):List AO:=h1 b (.int 22) (.int 3) (dP b) 124 118 <|
 h2 b (dM b [(ku,(rf b 130))] 9) (dN b) <|
 h3 b 130 0 0 0 <|
 oc (.list [(.str mj),(.str jK),(.str jU),(.str j6)]) <|
 oc (.list [(rf b 76),(rf b 7),(rf b 13)]) <|
 mo b 118 20 19 0 none true 19 122 13 (some xE) <|
 mo b 124 21 19 0 none true 118 128 7 (some xF) <|
 mo b 130 22 19 0 none true 124 134 76 none []
def an6(b:Nat):List AO:=h1 b (.int 20) (.int 1) (dP b) 0 0 <|
 h2 b (dM b [(nG,(rf b 118))] 9) (dN b) <|
 h3 b 0 0 118 0 <|
 oc (.list [(.str mj),(.str jK),(.str jU),(.str j6)]) <|
 oc (.list [(rf b 94)]) <|
 mo b 118 20 19 0 none true 25 122 94 none []
def an7(b:Nat):List AO:=h1 b (.int 19) (.int 0) (dP b) 0 0 <|
 h2 b (dM b [] 8) (dN b) <|
 h3 b 0 0 0 0 <|
 oc (.list [(.str mj),(.str jK),(.str jU),(.str j6)]) []
def an8(b:Nat):List AO:=h1 b (.int 24) (.int 5) (dP b) 131 125 <|
 h2 b (dM b [(kP,(rf b 118)),(lM,(rf b 143)),(ku,(rf b 137))] 11) (dN b) <|
 h3 b 137 143 0 118 <|
 oc (.list [(.str mj),(.str jK),(.str jU),(.str j6)]) <|
 oc (.list [(rf b 107)]) <|
 mo b 118 20 19 0 none true 82 122 107 none <|
 oc (.list [(rf b 82),(rf b 76),(rf b 7),(rf b 13)]) <|
 mo b 125 21 19 0 none true 19 129 13 (some xE) <|
 mo b 131 22 19 0 none true 125 135 7 (some xF) <|
 mo b 137 23 19 0 none true 131 141 76 none <|
 mo b 143 24 19 0 none true 137 147 82 none <|
 oc (.list []) []
def an9(b:Nat):List AO:=h1 b (.int 23) (.int 4) (dP b) 131 125 <|
 h2 b (dM b [(kP,(rf b 118)),(ku,(rf b 137))] 10) (dN b) <|
 h3 b 137 0 0 118 <|
 oc (.list [(.str mj),(.str jK),(.str jU),(.str j6)]) <|
 oc (.list [(rf b 107)]) <|
 mo b 118 20 19 0 none true 82 122 107 none <|
 oc (.list [(rf b 76),(rf b 7),(rf b 13)]) <|
 mo b 125 21 19 0 none true 19 129 13 (some xE) <|
 mo b 131 22 19 0 none true 125 135 7 (some xF) <|
 mo b 137 23 19 0 none true 131 141 76 none []
def aoa(b:Nat):List AO:=h1 b (.int 21) (.int 2) (dP b) 0 0 <|
 h2 b (dM b [(kP,(rf b 118)),(nG,(rf b 125))] 10) (dN b) <|
 h3 b 0 0 125 118 <|
 oc (.list [(.str mj),(.str jK),(.str jU),(.str j6)]) <|
 oc (.list [(rf b 107)]) <|
 mo b 118 20 19 0 none true 82 122 107 none <|
 oc (.list [(rf b 94)]) <|
 mo b 125 21 19 0 none true 25 129 94 none []
def aob(b:Nat):List AO:=h1 b (.int 20) (.int 1) (dP b) 0 0 <|
 h2 b (dM b [(kP,(rf b 118))] 9) (dN b) <|
 h3 b 0 0 0 118 <|
 oc (.list [(.str mj),(.str jK),(.str jU),(.str j6)]) <|
 oc (.list [(rf b 107)]) <|
 mo b 118 20 19 0 none true 82 122 107 none []
def mi(x:Str)(a:Nat)(n:Int)(c:Bool)(p:Option Str)(t:Bool)(w:Option Str)(u:Str)(v:Option Str)(m d r:Nat)(L:List (Str×MI)):List (Str×MI):=(x,⟨a,n,c,p,t,w,u,v,a+5,m,a+2,d,r⟩)::L
def t1(p0:Option Str)(p1:Option Str)(p2:Option Str)(p3:Option Str)(p4:Option Str)(L:List (Str×MI)):List (Str×MI):=mi kZ 7 2 true (some m9) false p0 jS (some kZ) 34 1 2 <|
 mi m9 13 3 true none false p1 jS (some m9) 33 0 2 <|
 mi jS 19 4 true (some lZ) false none jS (some jS) 32 3 2 <|
 mi lZ 25 5 true (some kZ) false none jS (some lZ) 31 2 2 <|
 mi kO 35 6 false none false none lZ (some kO) 41 0 0 <|
 mi kG 48 7 true (some qJ) false none jS (some kG) 68 3 2 <|
 mi qJ 54 8 true (some kZ) false none jS (some qJ) 60 2 2 <|
 mi qI 61 9 false none false none lZ (some qI) 67 0 0 <|
 mi kH 69 10 true (some kZ) false none jS (some kH) 75 2 2 <|
 mi jU 76 11 true (some kZ) false p2 jS none 80 2 2 <|
 mi jK 82 12 true (some jU) false p3 jS none 86 3 2 <|
 mi lQ 88 13 true (some jU) false none jS none 92 3 2 <|
 mi j6 94 14 false none false p4 lZ none 98 0 1 <|
 mi lJ 100 15 false none false none lZ none 104 0 0 <| L
def aoc:List (Str×MI):=t1 (some ni) (some mV) (some ku) (some lM) none <|
 mi mV 118 20 true (some jS) true none jS (some xE) 122 4 2 <|
 mi ni 124 21 true (some mV) true none jS (some xF) 128 5 2 <|
 mi ku 130 22 true (some ni) true none jS none 134 6 2 <|
 mi lM 136 23 true (some ku) true none jS none 140 7 2 <| []
def aod:List (Str×MI):=t1 (some ni) (some mV) (some ku) none none <|
 mi mV 118 20 true (some jS) true none jS (some xE) 122 4 2 <|
 mi ni 124 21 true (some mV) true none jS (some xF) 128 5 2 <|
 mi ku 130 22 true (some ni) true none jS none 134 6 2 <| []
def aoe:List (Str×MI):=t1 none none none none (some nG) <|
 mi nG 118 20 true (some lZ) true none jS none 122 3 2 <| []
def aof:List (Str×MI):=t1 none none none none none <| []
def aog:List (Str×MI):=t1 (some ni) (some mV) (some ku) (some lM) none <|
 mi kP 118 20 true (some jK) true none jS none 122 4 2 <|
 mi mV 125 21 true (some jS) true none jS (some xE) 129 4 2 <|
 mi ni 131 22 true (some mV) true none jS (some xF) 135 5 2 <|
 mi ku 137 23 true (some ni) true none jS none 141 6 2 <|
 mi lM 143 24 true (some ku) true none jS none 147 7 2 <| []
def aoh:List (Str×MI):=t1 (some ni) (some mV) (some ku) none none <|
 mi kP 118 20 true (some jK) true none jS none 122 4 2 <|
 mi mV 125 21 true (some jS) true none jS (some xE) 129 4 2 <|
 mi ni 131 22 true (some mV) true none jS (some xF) 135 5 2 <|
 mi ku 137 23 true (some ni) true none jS none 141 6 2 <| []
def aoi:List (Str×MI):=t1 none none none none (some nG) <|
 mi kP 118 20 true (some jK) true none jS none 122 4 2 <|
 mi nG 125 21 true (some lZ) true none jS none 129 3 2 <| []
def aoj:List (Str×MI):=t1 none none none none none <|
 mi kP 118 20 true (some jK) true none jS none 122 4 2 <| []
def hM(hk:Bool)(al:Nat)(b:Nat):List AO:=if hk then (if al=0 then an8 b else if al=1 then an9 b else if al=2 then aoa b else aob b) else (if al=0 then an4 b else if al=1 then an5 b else if al=2 then an6 b else an7 b)
def tM(hk:Bool)(al:Nat):List (Str×MI):=if hk then (if al=0 then aog else if al=1 then aoh else if al=2 then aoi else aoj) else (if al=0 then aoc else if al=1 then aod else if al=2 then aoe else aof)
def oS(nm nt:Str):List AO:=if nt=kT then [.jE] else [.sd [(nm,.tup [.none,.int 0,.int 0])] 0,.sd [(nt,.ref 1 0)] 0]
def lK(nt:Str):Nat:=if nt=kT then 0 else 1
def cT:List (Addr×xQ):=[(35,⟨7,0,VY⟩),(216,⟨13,0,VZ⟩),(265,⟨8,0,Mf⟩),(377,⟨2,0,Wg⟩),(384,⟨9,2,Wh⟩),(391,⟨6,0,Wi⟩),(398,⟨9,2,Wj⟩),(793,⟨21,1,Wy⟩),(814,⟨4,0,Wz⟩),(835,⟨6,1,Mi⟩),(840,⟨12,3,WD⟩),(847,⟨6,0,WG⟩),(855,⟨9,3,WH⟩),(223,⟨4,0,Md⟩),(862,⟨8,0,Mj⟩)]
theorem qX{a m nn:Nat}{ss:jF}{T:List (Addr×xQ)}(h:codeOf tab a m=some (nn,ss))(ih:∀{x c},jL T x=some c->codeOf tab x c.m=some (c.nn,c.ss)){x:Nat}{c:xQ}(e:jL ((a,⟨m,nn,ss⟩)::T) x=some c):codeOf tab x c.m=some (c.nn,c.ss):=
 mY (show cond (aj a x) (some _) (jL T x)=some c from e) (λz e=>by rw [<-ai e,<-aP z];exact h) λJ e=>ih e
theorem aok{x:Nat}{c:xQ}(e:jL ([]:List (Addr×xQ)) x=some c):codeOf tab x c.m=some (c.nn,c.ss):=xn e
theorem ZR{x:Nat}{c:xQ}(e:jL cT x=some c):codeOf tab x c.m=some (c.nn,c.ss):=qX akB (qX akC (qX V5 (qX akP (qX akQ (qX akR (qX akS (qX ak4 (qX ak5 (qX WC (qX ak6 (qX ak7 (qX ak8 (qX V0 (qX WK aok)))))))))))))) e
theorem aol(L:List AO)(nm:Str):rC cT 14 250 (.st (.ref 1054)) [.ref 1 0] ⟨[L],[.jE]⟩=some (.ref 1 1,⟨[L],[.jE]++hW 0⟩):=by kernel_rfl
theorem aom(L:List AO)(nm:Str):rC cT 14 250 (.st (.ref 1054)) [.ref 1 1] ⟨[L],[.sd [(nm,.tup [.none,.int 0,.int 0])] 0,.sd [(kO,.ref 1 0)] 0]⟩=some (.ref 1 2,⟨[L],[.sd [(nm,.tup [.none,.int 0,.int 0])] 0,.sd [(kO,.ref 1 0)] 0]++hW 1⟩):=by kernel_rfl
theorem aon(L:List AO)(nm:Str):rC cT 14 250 (.st (.ref 1054)) [.ref 1 1] ⟨[L],[.sd [(nm,.tup [.none,.int 0,.int 0])] 0,.sd [(kG,.ref 1 0)] 0]⟩=some (.ref 1 2,⟨[L],[.sd [(nm,.tup [.none,.int 0,.int 0])] 0,.sd [(kG,.ref 1 0)] 0]++hW 1⟩):=by kernel_rfl
theorem aoo(L:List AO)(nm:Str):rC cT 14 250 (.st (.ref 1054)) [.ref 1 1] ⟨[L],[.sd [(nm,.tup [.none,.int 0,.int 0])] 0,.sd [(kH,.ref 1 0)] 0]⟩=some (.ref 1 2,⟨[L],[.sd [(nm,.tup [.none,.int 0,.int 0])] 0,.sd [(kH,.ref 1 0)] 0]++hW 1⟩):=by kernel_rfl
noncomputable abbrev Bx(b:Nat):Sl:=[some (.ref 1 (b+1)),some (.ref 0 9),none,none,none,none,none,none,none,none,none,none,none,none]
abbrev vM(nm:Str)(b:Nat):Sl:=[some (.ref 1 (b+1)),some (.ref 0 9),some (.ref 1 (b+45)),some (.ref 1 (b+46)),some (.str nm),some (.str kH),none,none,none,none,none,none,none,none]
abbrev uO(nm:Str)(b:Nat):Sl:=[some (.ref 1 (b+1)),some (.ref 0 9),some (.ref 1 (b+45)),some (.ref 1 (b+46)),some (.str nm),some (.str j6),some (.str qv),none,none,none,none,none,none,none]
abbrev fM:Rx:=rX (rC cT 16 181) 15
theorem aop(x0 x1 x2 x3 x4 x5 x6 x7 x8:AO)(R:List AO)(u9 js:Nat)(nm f:Str):rN fM 2 qf (Bx 0) ⟨[x0::x1::x2::x3::x4::x5::x6::x7::x8::.sd (jN (mH nm kT++[(nJ,.ref 0 js)]) nc (.str f)) u9::R],[.jE]++hW 0⟩=some (vM nm 0,⟨[x0::x1::x2::x3::x4::x5::x6::x7::x8::.sd (jN (mH nm kT++[(nJ,.ref 0 js)]) nc (.str f)) u9::R],[.jE]++hA 0⟩):=by kernel_rfl
theorem aoq(x0 x1 x2 x3 x4 x5 x6 x7 x8:AO)(R:List AO)(u9 js:Nat)(nm f:Str):rN fM 2 qf (Bx 1) ⟨[x0::x1::x2::x3::x4::x5::x6::x7::x8::.sd (jN (mH nm kO++[(nJ,.ref 0 js)]) nc (.str f)) u9::R],[.sd [(nm,.tup [.none,.int 0,.int 0])] 0,.sd [(kO,.ref 1 0)] 0]++hW 1⟩=some (vM nm 1,⟨[x0::x1::x2::x3::x4::x5::x6::x7::x8::.sd (jN (mH nm kO++[(nJ,.ref 0 js)]) nc (.str f)) u9::R],[.sd [(nm,.tup [.none,.int 0,.int 0])] 0,.sd [(kO,.ref 1 0)] 0]++hA 1⟩):=by kernel_rfl
theorem aor(x0 x1 x2 x3 x4 x5 x6 x7 x8:AO)(R:List AO)(u9 js:Nat)(nm f:Str):rN fM 2 qf (Bx 1) ⟨[x0::x1::x2::x3::x4::x5::x6::x7::x8::.sd (jN (mH nm kG++[(nJ,.ref 0 js)]) nc (.str f)) u9::R],[.sd [(nm,.tup [.none,.int 0,.int 0])] 0,.sd [(kG,.ref 1 0)] 0]++hW 1⟩=some (vM nm 1,⟨[x0::x1::x2::x3::x4::x5::x6::x7::x8::.sd (jN (mH nm kG++[(nJ,.ref 0 js)]) nc (.str f)) u9::R],[.sd [(nm,.tup [.none,.int 0,.int 0])] 0,.sd [(kG,.ref 1 0)] 0]++hA 1⟩):=by kernel_rfl
theorem aos(x0 x1 x2 x3 x4 x5 x6 x7 x8:AO)(R:List AO)(u9 js:Nat)(nm f:Str):rN fM 2 qf (Bx 1) ⟨[x0::x1::x2::x3::x4::x5::x6::x7::x8::.sd (jN (mH nm kH++[(nJ,.ref 0 js)]) nc (.str f)) u9::R],[.sd [(nm,.tup [.none,.int 0,.int 0])] 0,.sd [(kH,.ref 1 0)] 0]++hW 1⟩=some (vM nm 1,⟨[x0::x1::x2::x3::x4::x5::x6::x7::x8::.sd (jN (mH nm kH++[(nJ,.ref 0 js)]) nc (.str f)) u9::R],[.sd [(nm,.tup [.none,.int 0,.int 0])] 0,.sd [(kH,.ref 1 0)] 0]++hA 1⟩):=by kernel_rfl
theorem aot(L:List AO)(y0 y1:AO)(nm:Str):rN fM 6 (kW 2 qf) (vM nm 0) ⟨[L],[y0]++hA 0⟩=some (uO nm 0,⟨[L],[y0]++hB 0⟩):=by kernel_rfl
theorem Oj(L:List AO)(y0 y1:AO)(nm:Str):rN fM 6 (kW 2 qf) (vM nm 1) ⟨[L],[y0,y1]++hA 1⟩=some (uO nm 1,⟨[L],[y0,y1]++hB 1⟩):=by kernel_rfl
def ql(hk:Bool)(al bb:Nat):Prop:=∀(x0 x1 x2 x3 x4 x6 x7 x8 y0 y1:AO) (R:List AO) (u5 u9 js:Nat) (nm nt f:Str),rN fM 1 (kW 8 qf) (uO nm bb) ⟨[x0::x1::x2::x3::x4::.sd (lH (oQ hk al)) u5::x6::x7::x8::.sd (jN (mH nm nt++[(nJ,.ref 0 js)]) nc (.str f)) u9::R],y0::cond (aj bb 0) (hB bb) (y1::hB bb)⟩=some (uO nm bb,⟨[x0::x1::x2::x3::x4::.sd (lH (oQ hk al)) u5::x6::x7::x8::.sd (jN (mH nm nt++[(nJ,.ref 0 js)]) nc (.str f)) u9::R],y0::cond (aj bb 0) (hM hk al bb) (y1::hM hk al bb)⟩)
theorem aou:ql false 0 0:=λJ J J J J J J J J J J J J J J J J=>by kernel_rfl
theorem aov:ql false 0 1:=λJ J J J J J J J J J J J J J J J J=>by kernel_rfl
theorem aow:ql false 1 0:=λJ J J J J J J J J J J J J J J J J=>by kernel_rfl
theorem aox:ql false 1 1:=λJ J J J J J J J J J J J J J J J J=>by kernel_rfl
theorem aoy:ql false 2 0:=λJ J J J J J J J J J J J J J J J J=>by kernel_rfl
theorem aoz:ql false 2 1:=λJ J J J J J J J J J J J J J J J J=>by kernel_rfl
theorem aoA:ql false 3 0:=λJ J J J J J J J J J J J J J J J J=>by kernel_rfl
theorem aoB:ql false 3 1:=λJ J J J J J J J J J J J J J J J J=>by kernel_rfl
theorem aoC:ql true 0 0:=λJ J J J J J J J J J J J J J J J J=>by kernel_rfl
theorem aoD:ql true 0 1:=λJ J J J J J J J J J J J J J J J J=>by kernel_rfl
theorem aoE:ql true 1 0:=λJ J J J J J J J J J J J J J J J J=>by kernel_rfl
theorem aoF:ql true 1 1:=λJ J J J J J J J J J J J J J J J J=>by kernel_rfl
theorem aoG:ql true 2 0:=λJ J J J J J J J J J J J J J J J J=>by kernel_rfl
theorem aoH:ql true 2 1:=λJ J J J J J J J J J J J J J J J J=>by kernel_rfl
theorem aoI:ql true 3 0:=λJ J J J J J J J J J J J J J J J J=>by kernel_rfl
theorem aoJ:ql true 3 1:=λJ J J J J J J J J J J J J J J J J=>by kernel_rfl
theorem HD{al b:Nat}(hk:Bool)(ha:al<4)(hb:b=0\/b=1):ql hk al b:=by
 rcases (by exact Ea ha:al=0\/al=1\/al=2\/al=3) with rfl|rfl|rfl|rfl<;>cases hk<;>rcases hb with rfl|rfl
 exact aou
 exact aov
 exact aoC
 exact aoD
 exact aow
 exact aox
 exact aoE
 exact aoF
 exact aoy
 exact aoz
 exact aoG
 exact aoH
 exact aoA
 exact aoB
 exact aoI
 exact aoJ
set_option backward.match.sparseCases false
section
section
variable{w:Nat}{b:jF}
theorem ZS{ι:Type}{keys:List Str}{r:Nat}(ho:(keys=[]/\o=.jE)\/∃d u,o=.sd d u/\d.map az=keys)(hl:keys.length<=65536){Q:QS}(E:ι->Sl)(Inv:List Str->ι->AH->Prop)(x0:ι)(he:e=E x0)
  (hI:∀d x η,Inv d x η->η.get r i=some o) (h0:Inv [] x0 η)
  (step:∀d a t x η,keys=d++a::t->Inv d x η->∀G:Sl->AH->Prop,(∀x η,Inv (d++[a]) x η->G (E x) η)->∃e',tg.bind (.str a) (E x)=some e'/\WS k b w e' η (AW Q G))
  (fin:∀x η,Inv keys x η->let e1:=E x;Q .next e1 η):∃S,rU false (.ref r i) η=some S/\o9 (λe η Q=>WS k b w e η Q) tg S (S.len η+1) 0 e η Q:=by
 have go:∀{S:Src},rU false (.ref r i) η=some S->keys.length<=S.len η->(∀d t η,keys=d++t->η.get r i=some o->S.at d.length η=some (t.head?.map .str))->∃S,rU false (.ref r i) η=some S/\o9 (λe η Q=>WS k b w e η Q) tg S (S.len η+1) 0 e η Q:=λ{S} h1 h2 h3=>
  ⟨S,h1,Gr (f:=.str) (all:=keys) (Inv:=λd e η=>∃x,e=E x/\Inv d x η) (λd t e η ha h=>h.elim λx h=>h3 d t η ha (hI d x η h.2)) (λd a t e η ha h G q=>h.elim λx h=>h.1▸step d a t x η ha h.2 G λx η I=>q _ _ ⟨x,rfl,I⟩) (λe η h=>h.elim λx h=>h.1▸fin x η h.2) [] _ e η rfl (cg h2) ⟨x0,he,h0⟩⟩
 have g0:=hI _ _ _ h0
 refine ho.elim (λz=>?_) λz=>z.elim λd z=>z.elim λu z=>?_
 ·rw [z.2] at g0
  refine go (S:=.nil r i) (jQ g0 rfl) (by rw [z.1];exact ak _) λd t η ha h=>?_
  rw [z.1] at ha
  rw [(List.append_eq_nil_iff.mp ha.symm).2]
  exact jQ (h.trans (congrArg some z.2)) rfl
 ·rw [z.1] at g0
  have ln:d.length=keys.length:=by rw [<-z.2,aC]
  refine go (S:=.keys r i u d.length) (jQ g0 (lA (mh (ln▸hl)) rfl)) (aq ln.symm) λdn t η ha h=>?_
  refine jQ (Xi (h.trans (congrArg some z.1))) (lA (tu (bZ u) (bZ d.length)) (congrArg some ?_))
  have:(d[dn.length]?.map λp:Str×PV=>PV.str p.1)=((d.map az)[dn.length]?).map PV.str:=by
   rw [cQ,Option.map_map];rfl
  rw [this,z.2,<-cQ]
  exact Ms ha
end
structure Kn(ex:Nat->Prop)(η jt:AH):Prop where
 reg:jt.reg=η.reg
 ju:η.ju<=jt.ju
 get:∀r i o,¬ (r=1/\ex i)->η.get r i=some o->jt.get r i=some o
section
variable{ex:Nat->Prop}
theorem Kn.refl:Kn ex η η:=⟨rfl,ak _,λJ J J J h=>h⟩
theorem Kn.ke(h:Kn ex η jt)(k:Ke jt jA):Kn ex η jA:=⟨k.reg.trans h.reg,ah h.ju k.ju,λr i o hn e=>k.get _ _ _ (h.get r i o hn e)⟩
theorem Kn.set(h:Kn ex η jt)(hi:ex i)(o:AO):Kn ex η (jt.set 1 i o):=⟨by rw [AH.zg,h.reg],by rw [AH.AG];exact h.ju,λr j o' hn e=>by
 rw [AH.ka (by rintro ⟨rfl,rfl⟩;exact hn ⟨rfl,hi⟩)];exact h.get r j o' hn e⟩
end
set_option genCtorIdx false in
structure Ad where
 ad:Str->Nat
 af:Str->Nat
 am:Str->Nat
 ae:Str->Nat
noncomputable def Ad.m(A:Ad)(x:Str):PV:=.ref 1 (A.ad x)
structure Wd(A:Ad)(sp:List Str)(md:Nat)(η:AH):Prop where
 yq:∃l u,η.get 1 md=some (.sd l u)/\∀x∈sp,jv l x=some (A.m x)
 inst:∀x∈sp,∃fs,η.get 1 (A.ad x)=some (.inst 226 fs)/\jv fs sS=some (.ref 1 (A.af x))/\jv fs mW=some (.ref 1 (A.am x))/\jv fs q9=some (.ref 1 (A.ae x))
section
variable{A:Ad}{sp:List Str}{md:Nat}
theorem Wd.kn{ex:Nat->Prop}(W:Wd A sp md η)(K:Kn ex η jt)(h1:¬ ex md)(h2:∀x∈sp,¬ ex (A.ad x)):Wd A sp md jt:=by
 refine oH (W.yq) λl u a b=>?_
 refine ⟨⟨l,u,K.get _ _ _ (λh=>h1 h.2) a,b⟩,λx hx=>?_⟩
 refine jZ (W.inst x hx) λfs a b=>?_
 exact ⟨fs,K.get _ _ _ (λh=>h2 x hx h.2) a,b⟩
theorem aoK(V:Wd A sp md η)(mR:η.reg=1){row:List Str}(Ol:∀x∈row,x∈sp)(hl:row.length<=100)(hj:η.get 0 j=some (.list (jM row))){Q:PV->AH->Prop}
  (hit:∀{Q':PV->AH->Prop},Q' (.ref 0 j) η->W k it [p0,p1,some (.ref 1 md),p3,p4,p5,p6,p7,p8,p9,ry,rz,sr,uD] η Q')
  (q:∀jA i,Ke η jA->jA.get 1 i=some (.list (row.map A.m))->η.ju<=i->Q (.ref 1 i) jA) :
  W k (.ve (.item (.v 2) (.v 13)) (.one 13) it .nil [2] [12,13]) [p0,p1,some (.ref 1 md),p3,p4,p5,p6,p7,p8,p9,ry,rz,sr,uD] η Q:=by
 refine su ?_
 refine hit ?_
 refine ⟨_,tE hj,rfl,?_⟩
 rw [tF hj,m6,mR]
 simp only [clear,qR,qS]
 refine uG .str row (Ig hl) (λy:Option PV=>[p0,p1,some (.ref 1 md),p3,p4,p5,p6,p7,p8,p9,ry,rz,none,y]) (λd J jt=>Ke η jt/\jt.get 1 η.ju=some (.list (d.map A.m))) _ rfl (λd J jt h=>h.1.get _ _ _ hj) ⟨(Ke.refl _).add _,by have:=AH.jT η (.list []);rw [mR] at this;exact this⟩ ?_ ?_
 ·intro d x t y jt hd I GG qG
  refine jP I λK1 h1=>?_
  refine ⟨_,rfl,?_⟩
  simp only [qR,qS]
  refine oH (V.yq) λl u a b=>?_
  have i1:jR tab (.ref 1 md) (.str x) jt=some (A.m x):=lV (K1.get _ _ _ a) (b x (Ol x (by rw [hd];simp)))
  have nV:d.length<row.length:=by rw [hd];simp
  wtm_at "s"
  refine ⟨λJ=>?_,λh=>nomatch h⟩
  wtm_at "W"
  refine ⟨_,?_,qG _ _ ⟨K1.set mR.symm (ak _) _,AH.lG h1⟩⟩
  refine (sy h1).trans ?_
  rw [mh (by rw [aC];exact aaI hl nV),cond_true,aV]
  rfl
 ·intro y jt I
  refine jP I λK1 h1=>?_
  exact q jt η.ju K1 h1 (ak _)
end
end
section
section
variable{A:Ad}{sp:List Str}{md:Nat}{w:Nat}
theorem DU(hn:(fl.map az).Nodup){p:Str×Nat×List Str}(hp:p∈fl):jv fl p.1=some p.2:=by
 induction fl with
|nil=>cases hp
|cons q r ih=>
  obtain ⟨y,v⟩:=q
  rw [bT,bw] at hn
  unfold jv
  rcases aB.mp hp with rfl|h
  ·rw [kj.mpr rfl];rfl
  ·have:sq y p.1=false:=by
    induction hq:sq y p.1 using Bool.casesOn with
   |false=>rfl
   |true=>
     have:=kj.mp hq
     exact absurd (aQ.mpr ⟨p,h,this.symm⟩) hn.1
   rw [this]
   exact ih hn.2 h
theorem ZT(mR:η.reg=1)(V:Wd A sp md η){s a:Str}{at_:Str->Nat}(hi:i<10)(hi1:i≠1)(h9:η.get 0 9=some (.sd D u9))(hs:jv D s=some (.ref 0 i))(R:mL η i fl)(hn:(fl.map az).Nodup)(hl:fl.length<=10)
  (qj:∀p∈fl,p.1∈sp/\(∀g∈p.2.2,g∈sp)/\p.2.2.length<=2)
  (ha:∀x∈sp,∀fs,η.get 1 (A.ad x)=some (.inst 226 fs)->jv fs a=some (.ref 1 (at_ x))) (hfa:(jL tab.fields 226).map (o8 · a)=some true)
  (h0:∀p∈fl,η.get 1 (at_ p.1)=some (.list [])) (inj:∀x∈sp,∀y∈sp,at_ x=at_ y->x=y)
   {Q:Fl->Sl->AH->Prop}
  (q:∀jt p7,Kn (λj=>∃p∈fl,j=at_ p.1) η jt->(∀p∈fl,jt.get 1 (at_ p.1)=some (.list (p.2.2.map A.m)))->Q .next [p0,some (.ref 0 9),some (.ref 1 md),p3,p4,p5,p6,p7,p8,p9,ry,rz,sr,uD] jt) :
  W1 k (.for false (.one 7) (.item (.v 1) (.k (.str s))) (.cons (.expr (.mr (.attr (.item (.v 2) (.v 7)) a) wj (.cons (.ve (.item (.v 2) (.v 13)) (.one 13) (.item (.item (.v 1) (.k (.str s))) (.v 7)) .nil [2] [12,13]) .nil))) .nil)) w [p0,some (.ref 0 9),some (.ref 1 md),p3,p4,p5,p6,p7,p8,p9,ry,rz,sr,uD] η Q:=by
 have ZL:jR tab (.ref 0 9) (.str s) η=some (.ref 0 i):=lV h9 hs
 wtm_at "s";wtm_at "s";wtm_at "s";wtm_at "s";wtm_at "s"
 obtain ⟨o,ho,Om⟩:∃o,((fl.map az=[]/\o=AO.jE)\/∃d u,o=.sd d u/\d.map az=fl.map az)/\η.get 0 i=some o:=by
  rcases R.at_ with ⟨rfl,h⟩|⟨u,h⟩
  ·exact ⟨_,.inl ⟨rfl,rfl⟩,h⟩
  ·exact ⟨_,.inr ⟨_,u,rfl,by unfold yl;rw [fh];rfl⟩,h⟩
 refine oH (V.yq) λlm um pQ tP=>?_
 have nm:∀p∈fl,md≠at_ p.1:=λp hp e=>by rw [e,h0 p hp] at pQ;cases pQ
 have HF:∀x∈sp,∀p∈fl,A.ad x≠at_ p.1:=λx hx p hp e=>by
  refine jZ (V.inst x hx) λfs h J=>?_
  rw [e,h0 p hp] at h;cases h
 have lt:∀p∈fl,at_ p.1<η.ju:=λp hp=>AH.qi (h0 p hp) mR.symm
 refine ZS ho (by rw [aC];exact O7 hl) (λx:Option PV=>[p0,some (.ref 0 9),some (.ref 1 md),p3,p4,p5,p6,x,p8,p9,ry,rz,sr,uD]) (λd J jt=>Kn (λj=>∃p∈fl,j=at_ p.1) η jt/\(∀p∈fl,p.1∈d->jt.get 1 (at_ p.1)=some (.list (p.2.2.map A.m)))/\(∀p∈fl,p.1∉d->jt.get 1 (at_ p.1)=some (.list []))) _ rfl (λd x jt I=>I.1.get _ _ _ (dc rfl) Om) ⟨Kn.refl,λp J h=>(nomatch h),λp hp J=>h0 p hp⟩ ?_ ?_
 ·intro d x t jk jt hd I GG qG
  refine pU I λK h1 h2=>?_
  refine ⟨_,rfl,?_⟩
  simp only [qR,qS]
  obtain ⟨p,hp,Oo⟩:∃p∈fl,p.1=x:=by
   have:x∈fl.map az:=by rw [hd];simp
   refine jZ (aQ.mp this) λp a b=>?_
   exact ⟨p,a,b⟩
  subst Oo
  have Oq:p.1∉d:=by
   rw [hd,cA,bw] at hn
   exact λh=>hn.2.2 _ h _ (by simp) rfl
  refine pU (qj p hp) λf1 f2 f3=>?_
  have HG:jt.reg=1:=K.reg.trans mR
  have V':Wd A sp md jt:=V.kn K (λ⟨p,hp,e⟩=>nm p hp e) (λx hx ⟨p,hp,e⟩=>HF x hx p hp e)
  refine oH (V'.yq) λl' u' Ot Ou=>?_
  have i1:jR tab (.ref 1 md) (.str p.1) jt=some (A.m p.1):=lV Ot (Ou _ f1)
  refine jZ (V.inst p.1 f1) λfs HJ J=>?_
  have aoL:=K.get 1 _ _ (λ⟨_,p',nM,e⟩=>HF _ f1 p' nM e) HJ
  have a1:kE tab (A.m p.1) a jt=some (.ref 1 (at_ p.1)):=rD aoL hfa (ha _ f1 fs HJ) rfl
  have g1:=h2 p hp Oq
  wtm_at "W"
  refine jY (qU g1 (by decide +kernel)) ?_
  have Ol:=R.row p hp
  have aoM:=K.get 0 _ _ (dc rfl) Ol.2
  have Bp:=K.get 0 _ _ (dc rfl) h9
  have i2:jR tab (.ref 0 9) (.str s) jt=some (.ref 0 i):=lV Bp hs
  have i3:jR tab (.ref 0 i) (.str p.1) jt=some (.ref 0 p.2.1):=by
   rcases R.at_ with ⟨rfl,_⟩|⟨u,h⟩
   ·cases hp
   ·refine lV (K.get 0 _ _ (dc rfl) h) ?_
    rw [DM,DU hn hp]
    rfl
  wtm_at "s"
  refine aoK V' HG f2 (aaJ f3) aoM (λ{Q'} h=>?_) λjA j K2 hj hjn=>?_
  ·wtm_at "W"
   exact h
  have lt':=lt p hp
  have n':=K.ju
  wtm_at "W"
  refine qQ (Gv (K2.get _ _ _ g1) hj (aaK hjn lt' n') (by rw [aC];simp;exact Eb f3)) ⟨rfl,?_⟩
  rw [bN]
  have K':Kn (λj=>∃p∈fl,j=at_ p.1) η (jA.set 1 (at_ p.1) (.list (p.2.2.map A.m))):=(K.ke K2).set ⟨p,hp,rfl⟩ _
  wtm_at "W"
  refine qG _ _ ⟨K',λp' nM lU=>?_,λp' nM lU=>?_⟩
  ·by_cases e:p'.1=p.1
   ·have e1:=DU hn hp
    have e2:=DU hn nM
    rw [e,e1] at e2
    rw [e,AH.lG (K2.get _ _ _ g1),ai e2]
   ·have aoN:p'.1∈d:=by
     rcases aH.mp lU with h|h
     ·exact h
     ·exact absurd (aJ.mp h) e
    rw [AH.ka (λh=>e (inj _ (qj p' nM).1 _ f1 h.2))]
    exact K2.get _ _ _ (h1 p' nM aoN)
  ·have e:p'.1≠p.1:=λh=>lU (by rw [h];simp)
   rw [AH.ka (λh=>e (inj _ (qj p' nM).1 _ f1 h.2))]
   exact K2.get _ _ _ (h2 p' nM λh=>lU (bD _ h))
 ·intro jk jt I
  refine pU I λK h1 h2=>?_
  exact q jt _ K λp hp=>h1 p hp (aQ.mpr ⟨p,hp,rfl⟩)
end
end
section
def MethAt(A:Ad)(nm:Str)(η:AH)(x:Str)(h:pB):Prop:=(h.1=lu/\η.get 1 (A.ae x)=some .jE)\/(h.1≠lu/\∃j,η.get 1 (A.ae x)=some (.sd [(nm,.ref 1 j)] 0)/\η.get 1 j=some (.inst 254 (zk nm (A.m h.2.2) h.1 .none .none h.2.1)))
theorem DV(hn:(hl.map az).Nodup){p:Str×pB}(hp:p∈hl):jv hl p.1=some p.2:=by
 induction hl with
|nil=>cases hp
|cons q r ih=>
  obtain ⟨y,v⟩:=q
  rw [bT,bw] at hn
  unfold jv
  rcases aB.mp hp with rfl|h
  ·rw [kj.mpr rfl];rfl
  ·have:sq y p.1=false:=by
    induction hq:sq y p.1 using Bool.casesOn with
   |false=>rfl
   |true=>
     have:=kj.mp hq
     exact absurd (aQ.mpr ⟨p,h,this.symm⟩) hn.1
   rw [this]
   exact ih hn.2 h
theorem ZU(hl:pR)(x:Str):jv (yp hl) x=(jv hl x).map lP:=Bf lP hl x
section
variable{A:Ad}{sp:List Str}{md:Nat}{w:Nat}
theorem aoO(hk:30<=k)(mR:η.reg=1)(V:Wd A sp md η)(h9:η.get 0 9=some (.sd D u9))(hs:jv D ou=some (.ref 0 8))(E:om η hl)(hn:(hl.map az).Nodup)(Hi:hl.length<=100)
  (hh:∀p∈hl,p.1∈sp/\p.2.2.2∈sp)
  (h0:∀x∈sp,η.get 1 (A.ae x)=some .jE) (inj:∀x∈sp,∀y∈sp,A.ae x=A.ae y->x=y)
   {Q:Fl->Sl->AH->Prop}
  (q:∀jt p8 p9 ry rz,Kn (λj=>∃x∈sp,j=A.ae x) η jt->(∀p∈hl,MethAt A nm jt p.1 p.2)->(∀x∈sp,x∉hl.map az->jt.get 1 (A.ae x)=some .jE)->Q .next [p0,some (.ref 0 9),some (.ref 1 md),p3,some (.str nm),p5,p6,p7,p8,p9,ry,rz,sr,uD] jt) :
  W1 k (.for false (.one 8) (.item (.v 1) (.k (.str ou))) (.cons (.vf [(.loc 9),(.loc 10),(.loc 11)] (.item (.item (.v 1) (.k (.str ou))) (.v 8))) (.cons (.ite (.cmp .NotEq (.v 9) (.k (.str lu))) (.cons (.asg (.nZ (.attr (.item (.v 2) (.v 8)) q9) (.v 4)) (.call (.st (.ref 254)) (.cons (.v 4) (.cons (.item (.v 2) (.v 11)) (.cons (.v 9) (.cons (.k .none) (.cons (.k .none) (.cons (.v 10) .nil)))))))) .nil) .nil) .nil))) w [p0,some (.ref 0 9),some (.ref 1 md),p3,some (.str nm),p5,p6,p7,p8,p9,ry,rz,sr,uD] η Q:=by
 have ZL:jR tab (.ref 0 9) (.str ou) η=some (.ref 0 8):=lV h9 hs
 wtm_at "s";wtm_at "s";wtm_at "s";wtm_at "s";wtm_at "s"
 obtain ⟨o,ho,Om⟩:∃o,((hl.map az=[]/\o=AO.jE)\/∃d u,o=.sd d u/\d.map az=hl.map az)/\η.get 0 8=some o:=by
  rcases E with ⟨rfl,h⟩|⟨u,h⟩
  ·exact ⟨_,.inl ⟨rfl,rfl⟩,h⟩
  ·exact ⟨_,.inr ⟨_,u,rfl,by unfold yp;rw [fh];rfl⟩,h⟩
 refine oH (V.yq) λlm um pQ tP=>?_
 have nmd:∀x∈sp,md≠A.ae x:=λx hx e=>by rw [e,h0 x hx] at pQ;cases pQ
 have HF:∀x∈sp,∀y∈sp,A.ad x≠A.ae y:=λx hx y hy e=>by
  refine jZ (V.inst x hx) λfs h J=>?_
  rw [e,h0 y hy] at h;cases h
 refine ZS ho (by rw [aC];exact Ig Hi) (λx:Jk=>[p0,some (.ref 0 9),some (.ref 1 md),p3,some (.str nm),p5,p6,p7,x 0,x 1,x 2,x 3,sr,uD]) (λd J jt=>Kn (λj=>∃x∈sp,j=A.ae x) η jt/\(∀p∈hl,p.1∈d->MethAt A nm jt p.1 p.2)/\(∀x∈sp,x∉d->jt.get 1 (A.ae x)=some .jE)) (λi=>[_,_,_,_].getD i none) rfl (λd x jt I=>I.1.get _ _ _ (dc rfl) Om) ⟨Kn.refl,λp J h=>(nomatch h),λx hx J=>h0 x hx⟩ ?_ ?_
 ·intro d x t jk jt hd I GG qG
  refine pU I λK h1 h2=>?_
  refine ⟨_,rfl,?_⟩
  simp only [qR,qS]
  obtain ⟨p,hp,Oo⟩:∃p∈hl,p.1=x:=by
   have:x∈hl.map az:=by rw [hd];simp
   refine jZ (aQ.mp this) λp a b=>?_
   exact ⟨p,a,b⟩
  subst Oo
  have Oq:p.1∉d:=by
   rw [hd,cA,bw] at hn
   exact λh=>hn.2.2 _ h _ (by simp) rfl
  refine jP (hh p hp) λf1 f2=>?_
  have HG:jt.reg=1:=K.reg.trans mR
  have V':Wd A sp md jt:=V.kn K (λ⟨y,hy,e⟩=>nmd y hy e) (λx hx ⟨y,hy,e⟩=>HF x hx y hy e)
  refine oH (V'.yq) λl' u' Ot Ou=>?_
  have Bp:=K.get 0 _ _ (dc rfl) h9
  have i2:jR tab (.ref 0 9) (.str ou) jt=some (.ref 0 8):=lV Bp hs
  have i3:jR tab (.ref 0 8) (.str p.1) jt=some (lP p.2):=by
   rcases E with ⟨rfl,_⟩|⟨u,h⟩
   ·cases hp
   ·refine lV (K.get 0 _ _ (dc rfl) h) ?_
    rw [ZU,DV hn hp]
    rfl
  have dn:=h2 p.1 f1 Oq
  have ind:∀p'∈hl,p'.1∈d++[p.1]->p'.1≠p.1->p'.1∈d:=λp' J lU e=>by
   rcases aH.mp lU with h|h
   ·exact h
   ·exact absurd (aJ.mp h) e
  have same:∀p'∈hl,p'.1=p.1->p'.2=p.2:=λp' nM e=>by
   have e1:=DV hn hp
   have e2:=DV hn nM
   rw [e,e1] at e2
   exact (ai e2).symm
  wtm_at "W"
  rw [show lP p.2=.tup [.str p.2.1,.str p.2.2.1,.str p.2.2.2] from rfl]
  by_cases By:p.2.1=lu
  ·have hq:sq p.2.1 lu=true:=kj.mpr By
   wtm_at "W"
   rw [hq]
   wtm_at "W"
   refine qG (λi=>([some (.str p.1),some (.str p.2.1),some (.str p.2.2.1),some (.str p.2.2.2)]:Sl).getD i none) _ ⟨K,λp' nM lU=>?_,λx hx lU=>h2 x hx λh=>lU (bD _ h)⟩
   by_cases e:p'.1=p.1
   ·rw [same p' nM e,e]
    exact .inl ⟨By,dn⟩
   ·exact h1 p' nM (ind p' nM lU e)
  ·have hq:sq p.2.1 lu=false:=by
    induction h:sq p.2.1 lu using Bool.casesOn with
   |false=>rfl
   |true=>exact absurd (kj.mp h) By
   have io:jR tab (.ref 1 md) (.str p.2.2.2) jt=some (A.m p.2.2.2):=lV Ot (Ou _ f2)
   wtm_at "W"
   rw [hq]
   wtm_at "W"
   refine (XS (by wtm_at "o")).ny λjA K2 h3=>?_
   rw [HG] at h3 ⊢
   have V2:Wd A sp md jA:=V'.kn (ex:=λJ=>False) (Kn.refl.ke K2) (λh=>h) (λJ J h=>h)
   refine oH (V2.yq) λl2 u2 aoP aoQ=>?_
   have ix:jR tab (.ref 1 md) (.str p.1) jA=some (A.m p.1):=lV aoP (aoQ _ f1)
   refine BQ (V2.inst p.1 f1) λfs HJ J J hfm=>?_
   have am:kE tab (A.m p.1) q9 jA=some (.ref 1 (A.ae p.1)):=rD HJ (by kernel_rfl) hfm rfl
   have HK:=K2.get _ _ _ dn
   have lt:=AH.qi dn HG.symm
   have st:nv (.ref 1 (A.ae p.1)) (.str nm) (.ref 1 jt.ju) jA=some (jA.set 1 (A.ae p.1) (.sd [(nm,.ref 1 jt.ju)] 0)):=by
    exact AI HK
   wtm_at "W"
   refine qG (λi=>([some (.str p.1),some (.str p.2.1),some (.str p.2.2.1),some (.str p.2.2.2)]:Sl).getD i none) _ ⟨(K.ke K2).set ⟨_,f1,rfl⟩ _,λp' nM lU=>?_,λx hx lU=>?_⟩
   ·by_cases e:p'.1=p.1
    ·rw [same p' nM e,e]
     exact .inr ⟨By,_,AH.lG HK,by rw [AH.ka (aex lt)];exact h3⟩
    ·rcases h1 p' nM (ind p' nM lU e) with ⟨a,b⟩|⟨a,j,b,b'⟩
     ·exact .inl ⟨a,by rw [AH.ka (λh=>e (inj _ (hh p' nM).1 _ f1 h.2))];exact K2.get _ _ _ b⟩
     ·refine .inr ⟨a,j,by rw [AH.ka (λh=>e (inj _ (hh p' nM).1 _ f1 h.2))];exact K2.get _ _ _ b,?_⟩
      rw [AH.ka]
      ·exact K2.get _ _ _ b'
      ·rintro ⟨_,rfl⟩
       rw [dn] at b'
       cases b'
   ·have e:x≠p.1:=λh=>lU (by rw [h];simp)
    rw [AH.ka (λh=>e (inj _ hx _ f1 h.2))]
    exact K2.get _ _ _ (h2 x hx λh=>lU (bD _ h))
 ·intro jk jt I
  refine pU I λK h1 h2=>?_
  exact q jt _ _ _ _ K (λp hp=>h1 p hp (aQ.mpr ⟨p,hp,rfl⟩)) h2
end
end
section
section
variable{A:Ad}{sp:List Str}{md ac:Nat}
structure Raw(A:Ad)(sp:List Str)(md:Nat)(η:AH):Prop where
 wd:Wd A sp md η
 adI:∀x∈sp,∀y∈sp,A.ae x=A.ae y->x=y
 afI:∀x∈sp,∀y∈sp,A.af x=A.af y->x=y
 amI:∀x∈sp,∀y∈sp,A.am x=A.am y->x=y
 ZV:∀x∈sp,∀y∈sp,A.af x≠A.am y
 mr:∀x∈sp,η.get 1 (A.ae x)=some .jE
 front:∀x∈sp,η.get 1 (A.af x)=some (.list [])
structure Dn(A:Ad)(sp:List Str)(nm:Str)(fl ml:Rows)(hl:pR)(η jt:AH):Prop where
 kn:Kn (λj=>(∃p∈fl,j=A.af p.1)\/(∃p∈ml,j=A.am p.1)\/∃x∈sp,j=A.ae x) η jt
 front:∀p∈fl,jt.get 1 (A.af p.1)=some (.list (p.2.2.map A.m))
 mix:∀p∈ml,jt.get 1 (A.am p.1)=some (.list (p.2.2.map A.m))
 mr:∀p∈hl,MethAt A nm jt p.1 p.2
 rest:∀x∈sp,x∉hl.map az->jt.get 1 (A.ae x)=some .jE
theorem aoR(hk:40<=k)(mR:η.reg=1)(W0:Raw A sp md η)(h9:η.get 0 9=some (.sd D u9))(hs1:jv D pX=some (.ref 0 6))(hs2:jv D mW=some (.ref 0 7))(hs3:jv D ou=some (.ref 0 8))
   (R6:mL η 6 fl) (R7:mL η 7 ml) (E:om η hl) (n6:(fl.map az).Nodup) (n7:(ml.map az).Nodup) (n8:(hl.map az).Nodup) (l6:fl.length<=10) (l7:ml.length<=10) (l8:hl.length<=100)
  (f6:∀p∈fl,p.1∈sp/\(∀g∈p.2.2,g∈sp)/\p.2.2.length<=2) (f7:∀p∈ml,p.1∈sp/\(∀g∈p.2.2,g∈sp)/\p.2.2.length<=2) (f8:∀p∈hl,p.1∈sp/\p.2.2.2∈sp)
  (DW:∀p∈ml,η.get 1 (A.am p.1)=some (.list [])) {Q:PV->AH->Prop}
  (q:∀jt,Dn A sp nm fl ml hl η jt->Q (.tup [.ref 1 md,.ref 1 ac]) jt) :
  WS k (kW 9 qf) 0 [p0,some (.ref 0 9),some (.ref 1 md),some (.ref 1 ac),some (.str nm),p5,p6,p7,p8,p9,ry,rz,sr,uD] η (nK Q):=by
 have inst:=W0.wd.inst
 have HL:∀x∈sp,∀l,η.get 1 (A.ae x)≠some (.list l):=λx hx l e=>by rw [W0.mr x hx] at e;cases e
 refine oH (W0.wd.yq) λlm um pQ tP=>?_
 unfold qf
 dsimp only [kW]
 wtm_at "s"
 refine ZT mR W0.wd (dc rfl) (dc rfl) h9 hs1 R6 n6 l6 f6 (λx hx fs h=>?_) (by kernel_rfl) (λp hp=>W0.front _ (f6 p hp).1) W0.afI λjB p7' K1 g1=>?_
 ·refine vV (inst x hx) λtL a b J=>?_
  rw [a] at h
  cases h
  exact b
 have DL:jB.reg=1:=K1.reg.trans mR
 have aoS:¬ ∃p∈fl,md=A.af p.1:=λ⟨p,hp,e⟩=>by rw [e,W0.front _ (f6 p hp).1] at pQ;cases pQ
 have ZW:∀x∈sp,¬ ∃p∈fl,A.ad x=A.af p.1:=λx hx ⟨p,hp,e⟩=>by
  refine jZ (inst x hx) λfs a J=>?_
  rw [e,W0.front _ (f6 p hp).1] at a;cases a
 have V1:Wd A sp md jB:=W0.wd.kn K1 aoS ZW
 wtm_at "s"
 refine ZT DL V1 (dc rfl) (dc rfl) (K1.get _ _ _ (dc rfl) h9) hs2 (R7.mono (λj o hj e=>K1.get _ _ _ (dc rfl) e) (dc rfl)) n7 l7 f7 (λx hx fs h=>?_) (by kernel_rfl) (λp hp=>K1.get _ _ _ (λ⟨_,p',nM,e⟩=>W0.ZV _ (f6 p' nM).1 _ (f7 p hp).1 e.symm) (DW p hp)) W0.amI λjA aq9 K2 g2=>?_
 ·refine BQ (inst x hx) λtL a J b J=>?_
  rw [K1.get _ _ _ (λh=>ZW x hx h.2) a] at h
  cases h
  exact b
 have zA:jA.reg=1:=K2.reg.trans DL
 have aoT:¬ ∃p∈ml,md=A.am p.1:=λ⟨p,hp,e⟩=>by rw [e,DW p hp] at pQ;cases pQ
 have aoU:∀x∈sp,¬ ∃p∈ml,A.ad x=A.am p.1:=λx hx ⟨p,hp,e⟩=>by
  refine jZ (inst x hx) λfs a J=>?_
  rw [e,DW p hp] at a;cases a
 have V2:Wd A sp md jA:=V1.kn K2 aoT aoU
 have HK:∀x∈sp,jA.get 1 (A.ae x)=some .jE:=λx hx=>K2.get _ _ _ (λ⟨_,p,hp,e⟩=>HL x hx [] (by rw [e];exact DW p hp)) (K1.get _ _ _ (λ⟨_,p,hp,e⟩=>HL x hx [] (by rw [e];exact W0.front _ (f6 p hp).1)) (W0.mr x hx))
 wtm_at "s"
 refine aoO (adA hk) zA V2 (K2.get _ _ _ (dc rfl) (K1.get _ _ _ (dc rfl) h9)) hs3 (E.mono λo e=>K2.get _ _ _ (dc rfl) (K1.get _ _ _ (dc rfl) e)) n8 l8 f8 HK W0.adI λjD p8' p9' Hx ara K3 g3 g4=>?_
 have ZX:∀(r i:Nat) (o:AO),(∀x∈sp,i≠A.ae x)->jA.get r i=some o->jD.get r i=some o:=λr i o h e=>K3.get _ _ _ (λ⟨_,x,hx,e⟩=>h x hx e) e
 wtm_at "W"
 refine jO (q jD ⟨⟨(K3.reg.trans K2.reg).trans K1.reg,ah K1.ju (ah K2.ju K3.ju),λr i o hn e=>?_⟩,λp hp=>?_,λp hp=>?_,g3,g4⟩)
 ·refine K3.get _ _ _ (λ⟨a,b⟩=>hn ⟨a,.inr (.inr b)⟩) (K2.get _ _ _ (λ⟨a,b⟩=>hn ⟨a,.inr (.inl b)⟩) (K1.get _ _ _ (λ⟨a,b⟩=>hn ⟨a,.inl b⟩) e))
 ·refine ZX _ _ _ (λx hx e=>HL x hx [] (by rw [<-e];exact W0.front _ (f6 p hp).1)) (K2.get _ _ _ (λ⟨_,p',nM,e⟩=>W0.ZV _ (f6 p hp).1 _ (f7 p' nM).1 e) (g1 p hp))
 ·exact ZX _ _ _ (λx hx e=>HL x hx [] (by rw [<-e];exact DW p hp)) (g2 p hp)
end
theorem aoV(w:Nat):s7 tab 1145 [.ref 1 (w+1),.ref 0 9]=some [.ref 1 (w+1),.ref 0 9]:=by kernel_rfl
theorem Ov:SX 181 fM:=Lb (Vc ZR 16) 15
theorem aoW{b:Nat}{jD:AH}{Q:PV->AH->Prop}(hK:200<=K)(hA:rN fM 2 qf (Bx b) η=some (vM nm b,jB))(hB:rN fM 6 (kW 2 qf) (vM nm b) jB=some (uO nm b,jA))
  (hC:rN fM 1 (kW 8 qf) (uO nm b) jA=some (uO nm b,jD)) (hw:WS 181 (kW 9 qf) 0 (uO nm b) jD (nK λv η=>Q v η.fresh)):jw K (.st (.ref 1145)) [.ref 1 (b+1),.ref 0 9] η Q:=
 jw.le (k:=200) (jw.KS (k:=181) (N:=12) 0 alp (aoV b) (Lc Ov hA (Lc Ov hB (Lc Ov hC hw)))) hK
end
def MI0:MI:=⟨0,0,false,none,false,none,kT,none,0,0,0,0,0⟩
def jC(hk:Bool)(al:Nat)(n:Str):MI:=(jv (tM hk al) n).getD MI0
def lg(hk:Bool)(al:Nat):List Str:=(tM hk al).map az
def HM(hk:Bool)(al:Nat):Nat->Str->Str
|0,n=>n
|f+1,n=>if (jC hk al n).nj=true then match (jC hk al n).jJ with
 |some p=>HM hk al f p
 |none=>n
  else n
def ZY(hk:Bool)(al:Nat)(o:Str):Str:=if (jC hk al o).cls=true then HM hk al 11 o else o
def HN(hk:Bool)(al:Nat):Nat->Option Str->Option Str
|0,_=>none
|_+1,none=>none
|f+1,some p=>match (jC hk al p).own with
 |some x=>some x
 |none=>HN hk al f (jC hk al p).jJ
def ZZ(hk:Bool)(al:Nat)(n:Str):Str:=match (jC hk al n).own with
|some x=>x
|none=>(if (jC hk al n).cls=true/\(jC hk al n).nj=false then HN hk al 11 (jC hk al n).jJ else none).getD (jC hk al n).owner
def wQ(hk:Bool)(al:Nat)(x:Str):Str:=(((jv yc x).getD []).filter λy=>(jv (oQ hk al) y).isSome).headD kT
structure Stat(hk:Bool)(al:Nat):Prop where
 nodup:(lg hk al).Pairwise (·≠·)
 few:(lg hk al).length<=40
 Gp:(tM hk al).Pairwise λp q=>p.2.kQ≠q.2.kQ
 AQ:(tM hk al).Pairwise λp q=>p.2.num≠q.2.num
 Z0:(tM hk al).Pairwise λp q=>p.2.nD≠q.2.nD
 Z1:(tM hk al).Pairwise λp q=>p.2.nq≠q.2.nq
 AR:(tM hk al).Pairwise λp q=>p.2.kX≠q.2.kX
 apart:∀p∈tM hk al,∀q∈tM hk al,p.2.kQ≠q.2.nD/\p.2.kQ≠q.2.nq/\p.2.kQ≠q.2.kX/\p.2.nD≠q.2.nq/\p.2.nD≠q.2.kX/\p.2.nq≠q.2.kX
 low:∀p∈tM hk al,∀i∈[1,2,4,45,46,107,109,111,113],p.2.kQ≠i/\p.2.kX≠i/\p.2.nD≠i/\p.2.nq≠i
 pos:∀p∈tM hk al,1<=p.2.kQ/\1<=p.2.nD/\1<=p.2.nq/\1<=p.2.kX
 jJ:∀p∈tM hk al,(p.2.jJ.all λq=>decide (q∈lg hk al) && decide ((jC hk al q).depth<p.2.depth))=true
 deep:∀p∈tM hk al,p.2.depth<10
 Gn:∀p∈tM hk al,p.2.nj=true->p.2.jJ.isSome=true
 own:∀p∈tM hk al,(p.2.own.all λq=>decide (q∈lg hk al))=true
 owner:∀p∈tM hk al,p.2.owner∈lg hk al
 rank:∀p∈tM hk al,p.2.rank<=2
 aoX:∀g∈vH hk al,g∈lg hk al/\(jC hk al g).rank=2
 sH:∀g∈mP hk al,g∈lg hk al
 goals:∀g∈vH hk al,g∈mP hk al
 mn:j6∈mP hk al/\lJ∈mP hk al/\(jC hk al j6).rank=1/\(jC hk al lJ).rank=0/\(jC hk al j6).jJ=none/\(jC hk al lJ).jJ=none
 within:∀p∈qk,(jC hk al p.1).rank=2/\p.2.length<=2/\∀g∈p.2,g∈lg hk al/\(jC hk al g).rank=0/\(jC hk al g).jJ=none
 arb:∀g∈mP hk al,g∈qk.map az->g=kZ
 aoY:∀g∈vH hk al,g∉qk.map az
 above:∀p∈tM hk al,jv (oQ hk al) p.1=some p.2.jJ
 nat:∀p∈tM hk al,∀s∈[kO,kG,kH],p.2.nat=some s->p.1=s
 aoZ:∀s∈[kO,kG,kH],(jC hk al s).nat=some s
 cnt:∀o∈mP hk al,Dm o=ZY hk al o
 heads:∀x∈mO,wQ hk al x∈lg hk al/\(jC hk al (wQ hk al x)).jJ.isSome=true/\((jv yc x).getD []).filter (λy=>(jv (oQ hk al) y).isSome)≠[]
 vz:∀x∈[jK,jU,lQ,j6,m9],x∈lg hk al/\ZZ hk al x=wQ hk al x
 HP:kG∈lg hk al/\kH∈lg hk al/\wQ hk al uo=kG/\wQ hk al vd=kH
theorem Z2{f:Bool->Nat->Bool}(h:al<4)(e:([0,1,2,3].all λa=>f false a && f true a)=true):f hk al=true:=by
 have:=(aN _ _).mp (aI.mp e al (by rcases Ea h with rfl|rfl|rfl|rfl<;>decide))
 cases hk
 ·exact this.1
 ·exact this.2
theorem ckD{P:Bool->Nat->Prop}[∀a b,Decidable (P a b)](hk:Bool)(h:al<4)(e:([0,1,2,3].all λa=>decide (P false a) && decide (P true a))=true):P hk al:=of_decide_eq_true (Z2 (f:=λa b=>decide (P a b)) h e)
theorem ckB{f:Bool->Nat->Nat->Bool}(hk:Bool){b:Nat}(h:al<4)(hb:b=0\/b=1)(e:([0,1,2,3].all λa=>(f false a 0 && f false a 1) && (f true a 0 && f true a 1))=true):f hk al b=true:=by
 have:=(aN _ _).mp (Z2 (hk:=hk) (f:=λa b=>f a b 0 && f a b 1) h e)
 rcases hb with rfl|rfl
 ·exact this.1
 ·exact this.2
theorem stat(hk:Bool)(al:Nat)(h:al<4):Stat hk al:=by
 constructor<;>(apply ckD hk h;kernel_rfl)
noncomputable def HQ(v:Option PV)(i:Int):Bool:=match v with
|some (.int j)=>decide (j=i)
|_=>false
noncomputable def Z3(v:Option PV)(c:Bool):Bool:=match v with
|some (.bool d)=>d == c
|_=>false
noncomputable def qo(v:Option PV)(a:Nat):Bool:=match v with
|some (.ref r i)=>aj r 1 && aj i a
|_=>false
noncomputable def Bo(v:Option PV):Bool:=match v with
|some .none=>true
|_=>false
def Z4(v:Option PV)(s:Str):Bool:=match v with
|some (.str x)=>sq x s
|_=>false
theorem Ow{v:Option PV}{i:Int}(h:HQ v i=true):v=some (.int i):=by
 cases v with
|none=>exact xf h
|some p=>cases p with
 |int j=>exact congrArg (λx=>some (PV.int x)) (of_decide_eq_true (show decide (j=i)=true from h))
 |_=>exact xf h
theorem ao0{v:Option PV}{c:Bool}(h:Z3 v c=true):v=some (.bool c):=by
 cases v with
|none=>exact xf h
|some p=>cases p with
 |bool d=>exact congrArg (λx=>some (PV.bool x)) (beq_iff_eq.mp (show (d == c)=true from h))
 |_=>exact xf h
theorem qD{v:Option PV}{a:Nat}(h:qo v a=true):v=some (.ref 1 a):=by
 cases v with
|none=>exact xf h
|some p=>cases p with
 |ref r i=>exact xb (show (aj r 1 && aj i a)=true from h) λh1 h2=>by rw [aP h1,aP h2]
 |_=>exact xf h
theorem HR{v:Option PV}(h:Bo v=true):v=some .none:=by
 cases v with
|none=>exact xf h
|some p=>cases p with
 |none=>rfl
 |_=>exact xf h
theorem ao1{v:Option PV}{s:Str}(h:Z4 v s=true):v=some (.str s):=by
 cases v with
|none=>exact xf h
|some p=>cases p with
 |str x=>exact congrArg (λx=>some (PV.str x)) (kj.mp (show sq x s=true from h))
 |_=>exact xf h
def HS(hk:Bool)(al b:Nat)(v:Option PV)(o:Option Str):Bool:=match o with
|none=>Bo v
|some q=>qo v (b+(jC hk al q).kQ)
def BD(hk:Bool)(al b:Nat):Option Str->PV
|none=>.none
|some q=>.ref 1 (b+(jC hk al q).kQ)
theorem Ox{b:Nat}{v:Option PV}{o:Option Str}(h:HS hk al b v o=true):v=some (BD hk al b o):=by
 induction o using Option.casesOn with
|none=>exact HR h
|some q=>exact qD h
def isNat(v:Option PV)(o:Option Str):Bool:=match o with
|none=>Bo v
|some s=>Z4 v s
noncomputable def zF:Option Str->PV
|none=>.none
|some s=>.str s
theorem ao2{v:Option PV}{o:Option Str}(h:isNat v o=true):v=some (zF o):=by
 induction o using Option.casesOn with
|none=>exact HR h
|some q=>exact ao1 h
def Z5(v:Option PV)(c:Bool):Bool:=match v with
|some u=>(mJ u == !c) && oK u
|none=>false
structure HV(hk:Bool)(al b:Nat)(x:MI)(fs:List (Str×PV)):Prop where
 len:fs.length=17
 num:jv fs mX=some (.int x.num)
 cls:jv fs rW=some (.bool x.cls)
 jJ:jv fs rg=some (BD hk al b x.jJ)
 nj:∃v,jv fs uY=some v/\mJ v=!x.nj/\oK v=true
 own:jv fs nY=some (BD hk al b x.own)
 owner:jv fs l0=some (.ref 1 (b+(jC hk al x.owner).kQ))
 nat:jv fs lu=some (zF x.nat)
 mix:jv fs mW=some (.ref 1 (b+x.nq))
 front:jv fs sS=some (.ref 1 (b+x.nD))
 mr:jv fs q9=some (.ref 1 (b+x.kX))
 kept:jv fs nP=some .none
 Dc:jv fs wk=none
def Oz(hk:Bool)(al b:Nat)(x:MI)(o:Option AO):Bool:=match o with
|some (.inst c fs)=>aj c 226 && (aj fs.length 17 && (HQ (jv fs mX) x.num && (Z3 (jv fs rW) x.cls && (HS hk al b (jv fs rg) x.jJ && (Z5 (jv fs uY) x.nj && (HS hk al b (jv fs nY) x.own && (qo (jv fs l0) (b+(jC hk al x.owner).kQ) && (isNat (jv fs lu) x.nat && (qo (jv fs mW) (b+x.nq) && (qo (jv fs sS) (b+x.nD) && (qo (jv fs q9) (b+x.kX) && (Bo (jv fs nP) && (jv fs wk).isNone))))))))))))
|_=>false
set_option tactic.hygienic true in
theorem Z6{b:Nat}{x:MI}{o:Option AO}(h:Oz hk al b x o=true):∃fs,o=some (.inst 226 fs)/\HV hk al b x fs:=by
 unfold Oz at h
 split at h
 ·rename_i c fs
  simp only [aN] at h
  obtain ⟨h1,h2,h3,h4,h5,h6,h7,h8,h9,Bq,h11,M9,h13,h14⟩:=h
  refine ⟨fs,by rw [aP h1],aP h2,Ow h3,ao0 h4,Ox h5,?_,Ox h7,qD h8,ao2 h9,qD Bq,qD h11,qD M9,HR h13,by simpa using h14⟩
  unfold Z5 at h6
  split at h6
  ·rename_i u hu
   rw [aN,beq_iff_eq] at h6
   exact ⟨u,hu,h6.1,h6.2⟩
  ·exact xf h6
 ·exact xf h
noncomputable def isNil(o:Option AO):Bool:=match o with
|some (.list [])=>true
|_=>false
theorem Z7{o:Option AO}(h:isNil o=true):o=some (.list []):=by
 unfold isNil at h
 split at h
 ·rfl
 ·exact xf h
noncomputable def HW(o:Option AO):Bool:=match o with
|some .jE=>true
|_=>false
theorem OB{o:Option AO}(h:HW o=true):o=some .jE:=by
 unfold HW at h
 split at h
 ·rfl
 ·exact xf h
def HY(hk:Bool)(al b:Nat):List PV->List Str->Bool
|[],[]=>true
|v::r,g::t=>qo (some v) (b+(jC hk al g).kQ) && HY hk al b r t
|_,_=>false
theorem ao3{b:Nat}:∀{t:List Str},HY hk al b l t=true->l=t.map λg=>.ref 1 (b+(jC hk al g).kQ):=by
 induction l with
|nil=>exact λ{t} h=>match t,h with
 |[],_=>rfl
 |_::_,h=>xf h
|cons v r ih=>exact λ{t} h=>match t,h with
 |[],h=>xf h
 |g::t,h=>xb (show (qo (some v) (b+(jC hk al g).kQ) && HY hk al b r t)=true from h) λh1 h2=>by rw [bT,<-ih h2,ai (qD h1)]
def OD(hk:Bool)(al b:Nat)(o:Option AO)(t:List Str):Bool:=match o with
|some (.list l)=>HY hk al b l t
|_=>false
theorem Z8{b:Nat}{o:Option AO}{t:List Str}(h:OD hk al b o t=true):o=some (.list (t.map λg=>.ref 1 (b+(jC hk al g).kQ))):=by
 unfold OD at h
 split at h
 ·rw [ao3 h]
 ·exact xf h
def DX(hk:Bool)(al b:Nat)(H:List AO)(p:Str×MI):Bool:=
 Oz hk al b p.2 H[p.2.kQ - 1]? && (OD hk al b H[p.2.nq - 1]? ((jv qk p.1).getD []) && (isNil H[p.2.nD - 1]? && HW H[p.2.kX - 1]?))
def Z9(ws:List (Str×PV)):Bool:=(jv ws rY).isNone && ((jv ws wi).isNone && ((jv ws pG).isNone && ((jv ws yP).isNone && (jv ws uw).isNone)))
def OI(hk:Bool)(al:Nat):Int:=match ((hM hk al 0)[0]?:Option AO) with
|some (AO.inst _ ws)=>match jv ws sW with
 |some (.int i)=>i
 |_=>0
|_=>0
def aac(hk:Bool)(al b:Nat)(o:Option AO):Bool:=match o with
|some (.inst c ws)=>aj c 1054 && (HQ (jv ws sW) (OI hk al) && (qo (jv ws wu) b && (qo (jv ws wz) (b+2) && (qo (jv ws ur) (b+4) && Z9 ws))))
|_=>false
noncomputable def DY(o:Option AO)(f:List (Str×PV)->Bool):Bool:=match o with
|some (.sd l _)=>f l
|_=>false
theorem HZ{o:Option AO}{f:List (Str×PV)->Bool}(h:DY o f=true):∃l u,o=some (.sd l u)/\f l=true:=by
 unfold DY at h
 split at h
 ·exact yw _ _ rfl h
 ·exact xf h
def wR(x:Str):Nat:=if x=mj then 107 else if x=qK then 109 else if x=pP then 111 else 113
def BE(x:Str):Str:=if x=pP then jU else if x=qv then lQ else jK
def OJ(hk:Bool)(al b:Nat)(x:Str)(o:Option AO):Bool:=match o with
|some (.inst c fs)=>aj c 38 && (HS hk al b (jv fs nY) (if x=mj/\hk=true then some kP else none) && qo (jv fs l0) (b+(jC hk al (BE x)).kQ))
|_=>false
set_option tactic.hygienic true in
theorem ao4{b:Nat}{x:Str}{o:Option AO}(h:OJ hk al b x o=true):∃fs,o=some (.inst 38 fs)/\jv fs nY=some (BD hk al b (if x=mj/\hk=true then some kP else none))/\jv fs l0=some (.ref 1 (b+(jC hk al (BE x)).kQ)):=by
 unfold OJ at h
 split at h
 ·rename_i c fs
  simp only [aN] at h
  exact ⟨fs,by rw [aP h.1],Ox h.2.1,qD h.2.2⟩
 ·exact xf h
def OO(hk:Bool)(al b:Nat)(l:List (Str×PV)):Bool:=HQ (jv l uo) 5 && (Bo (jv l vd) && (([jK,jU,lQ,j6,m9].all λx=>qo (jv l x) (b+(jC hk al x).kQ)) && [mj,qK,pP,qv].all λx=>qo (jv l x) (b+wR x)))
structure Chk(hk:Bool)(al b:Nat)(H:List AO):Prop where
 mods:(tM hk al).all (DX hk al b H)=true
 world:aac hk al b H[0]?=true
 sC:HW H[1]?=true
 made:DY H[3]? (λl=>qo (jv l kG) (b+(jC hk al kG).kQ) && qo (jv l kH) (b+(jC hk al kH).kQ))=true
 mod:DY H[44]? (λl=>(mP hk al).all λx=>qo (jv l x) (b+(jC hk al x).kQ))=true
 act:DY H[45]? (OO hk al b)=true
 things:([mj,qK,pP,qv].all λx=>OJ hk al b x H[wR x - 1]?)=true
theorem chk(hk:Bool)(al b:Nat)(h:al<4)(hb:b=0\/b=1):Chk hk al b (hM hk al b):=by
 constructor<;>(apply ckB hk h hb;kernel_rfl)
section
def wU(hk:Bool)(al b:Nat):Ad:=⟨λx=>b+(jC hk al x).kQ,λx=>b+(jC hk al x).nD,λx=>b+(jC hk al x).nq,λx=>b+(jC hk al x).kX⟩
def uP(ml:Rows)(n:Str):List Str:=match jv ml n with
|some p=>p.2
|none=>(jv qk n).getD []
theorem H6{α β:Type}{f:α->β}:∀{l:List α},l.Pairwise (λp q=>f p≠f q)->∀{p q:α},p∈l->q∈l->f p=f q->p=q
|[],_,p,_,h,_,_=>nomatch h
|a::r,hp,p,q,h1,h2,e=>by
  rw [c5] at hp
  rcases aB.mp h1 with a1|a1<;>rcases aB.mp h2 with a2|a2
  ·rw [a1,a2]
  ·subst a1
   exact absurd e (hp.1 _ a2)
  ·subst a2
   exact absurd e.symm (hp.1 _ a1)
  ·exact H6 hp.2 a1 a2 e
section
variable{b:Nat}(S:Stat hk al)
include S
theorem ent(hn:n∈lg hk al):(n,jC hk al n)∈tM hk al:=by
 refine jZ (aQ.mp hn) λp hp lX=>?_
 obtain rfl:=lX
 have:jv (tM hk al) p.1=some p.2:=by
  have nd:=S.nodup
  unfold lg at nd
  rw [fE] at nd
  clear hn
  revert hp nd
  generalize tM hk al=t
  induction t with
 |nil=>intro h;cases h
 |cons q r ih=>
   intro hp nd
   rw [c5] at nd
   obtain ⟨y,v⟩:=q
   unfold jv
   rcases aB.mp hp with rfl|h
   ·rw [kj.mpr rfl];rfl
   ·have:sq y p.1=false:=by
     induction hq:sq y p.1 using Bool.casesOn with
    |false=>rfl
    |true=>exact absurd (kj.mp hq) (nd.1 p h)
    rw [this]
    exact ih h nd.2
 unfold jC
 rw [this]
 exact hp
theorem yr{f:MI->Nat}(h:(tM hk al).Pairwise λp q=>f p.2≠f q.2){x y:Str}(hx:x∈lg hk al)(hy:y∈lg hk al)(e:f (jC hk al x)=f (jC hk al y)):x=y:=
 congrArg az (H6 (f:=λp:Str×MI=>f p.2) h (ent S hx) (ent S hy) e)
end
structure Fin(hk:Bool)(al b:Nat)(nm nt:Str)(fl ml:Rows)(hl:pR)(η:AH):Prop where
 inst:∀n∈lg hk al,∃fs,η.get 1 (b+(jC hk al n).kQ)=some (.inst 226 fs)/\HV hk al b (jC hk al n) fs
 front:∀n∈lg hk al,η.get 1 (b+(jC hk al n).nD)=some (.list ((rowOf fl n).map (wU hk al b).m))
 mix:∀n∈lg hk al,η.get 1 (b+(jC hk al n).nq)=some (.list ((uP ml n).map (wU hk al b).m))
 mr:∀n∈lg hk al,match jv hl n with
 |none=>η.get 1 (b+(jC hk al n).kX)=some .jE
 |some h=>MethAt (wU hk al b) nm η n h
 world:∃ws,η.get 1 (b+1)=some (.inst 1054 ws)/\jv ws sW=some (.int (OI hk al))/\jv ws wu=some (.ref 1 b)/\jv ws wz=some (.ref 1 (b+2))/\jv ws ur=some (.ref 1 (b+4))/\jv ws rY=none/\jv ws wi=none/\jv ws pG=none/\jv ws yP=none/\jv ws uw=none
 sC:η.get 1 (b+2)=some .jE
 made:∃l u,η.get 1 (b+4)=some (.sd l u)/\jv l kG=some ((wU hk al b).m kG)/\jv l kH=some ((wU hk al b).m kH)
 mod:∃l u,η.get 1 (b+45)=some (.sd l u)/\∀x∈mP hk al,jv l x=some ((wU hk al b).m x)
 act:∃l u,η.get 1 (b+46)=some (.sd l u)/\OO hk al b l=true
 things:∀x∈[mj,qK,pP,qv],∃fs,η.get 1 (b+wR x)=some (.inst 38 fs)/\jv fs nY=some (BD hk al b (if x=mj/\hk=true then some kP else none))/\jv fs l0=some (.ref 1 (b+(jC hk al (BE x)).kQ))
 nat:(nt=kT/\b=0/\η.get 1 0=some .jE)\/(nt≠kT/\b=1/\η.get 1 1=some (.sd [(nt,.ref 1 0)] 0)/\η.get 1 0=some (.sd [(nm,.tup [.none,.int 0,.int 0])] 0))
def oG(L:List AO)(hk:Bool)(al b:Nat)(nm nt:Str):AH:=⟨[L],oS nm nt++hM hk al b⟩
theorem aad{nt:Str}{b:Nat}(hb:b=lK nt):(oS nm nt).length=b+1:=by
 subst hb
 unfold oS lK
 split<;>rfl
theorem vO{b:Nat}{nt:Str}(hb:b=lK nt)(hi:1<=i):(oG L hk al b nm nt).get 1 (b+i)=(hM hk al b)[i - 1]?:=by
 show (if 1=([L]:List (List AO)).length then (oS nm nt++hM hk al b)[b+i]? else _)=_
 rw [if_pos (by rfl),fB (by rw [aad hb];exact abq hi),aad hb]
 congr 1
 exact abr
theorem BF{α:Type}{l:List α}{f:α->Bool}(h:l.all f=true){x:α}(hx:x∈l):f x=true:=aI.mp h x hx
section
variable{b:Nat}{nt:Str}
theorem aae(mG:al<4)(hb:b=lK nt):Raw (wU hk al b) (mP hk al) (b+45) (oG L hk al b nm nt)/\(∀n∈lg hk al,(jv qk n)=none->(oG L hk al b nm nt).get 1 (b+(jC hk al n).nq)=some (.list []))/\∀n∈lg hk al,DX hk al b (hM hk al b) (n,jC hk al n)=true:=by
 have S:=stat hk al mG
 have zB:b=0\/b=1:=by rw [hb];unfold lK;split<;>simp
 have Ck:=chk hk al b mG zB
 have cp:∀n∈lg hk al,DX hk al b (hM hk al b) (n,jC hk al n)=true:=λn hn=>BF Ck.mods (ent S hn)
 have cps:∀n∈lg hk al,(∃fs,(oG L hk al b nm nt).get 1 (b+(jC hk al n).kQ)=some (.inst 226 fs)/\HV hk al b (jC hk al n) fs)/\(oG L hk al b nm nt).get 1 (b+(jC hk al n).nq)=some (.list (((jv qk n).getD []).map λg=>.ref 1 (b+(jC hk al g).kQ)))/\(oG L hk al b nm nt).get 1 (b+(jC hk al n).nD)=some (.list [])/\(oG L hk al b nm nt).get 1 (b+(jC hk al n).kX)=some .jE:=λn hn=>by
  have h:=cp n hn
  unfold DX at h
  simp only [aN] at h
  refine zL (S.pos _ (ent S hn)) λp1 p2 p3 p4=>?_
  refine jZ (Z6 h.1) λfs a a'=>?_
  exact ⟨⟨fs,by rw [vO hb p1];exact a,a'⟩,by rw [vO hb p3];exact Z8 h.2.1,by rw [vO hb p2];exact Z7 h.2.2.1,by rw [vO hb p4];exact OB h.2.2.2⟩
 have sp:∀x∈mP hk al,x∈lg hk al:=S.sH
 refine oH (HZ Ck.mod) λlm um m1 m2=>?_
 refine ⟨⟨⟨⟨lm,um,by rw [vO hb (dc rfl)];exact m1,λx hx=>qD (BF m2 hx)⟩,λx hx=>?_⟩,?_,?_,?_,?_,λx hx=>(cps x (sp x hx)).2.2.2,λx hx=>(cps x (sp x hx)).2.2.1⟩,λn hn hw=>?_,cp⟩
 ·refine jP (cps x (sp x hx)) λpJ J=>?_
  obtain ⟨fs,a,a'⟩:=pJ
  exact ⟨fs,a,a'.front,a'.mix,a'.mr⟩
 ·intro x hx y hy e
  exact yr S (f:=MI.kX) S.AR (sp x hx) (sp y hy) (bz e)
 ·intro x hx y hy e
  exact yr S (f:=MI.nD) S.Z0 (sp x hx) (sp y hy) (bz e)
 ·intro x hx y hy e
  exact yr S (f:=MI.nq) S.Z1 (sp x hx) (sp y hy) (bz e)
 ·intro x hx y hy e
  exact (S.apart _ (ent S (sp x hx)) _ (ent S (sp y hy))).2.2.2.1 (bz e)
 ·rw [(cps n hn).2.1,hw]
  rfl
end
end
section
theorem OQ{α:Type}{l:List (Str×α)}{x:Str}(h:x∉l.map az):jv l x=none:=by
 induction hg:jv l x using Option.casesOn with
|none=>rfl
|some v=>exact absurd (aQ.mpr ⟨_,qW hg,rfl⟩) h
theorem zG(S:Stat hk al)(ok:oR hk al fl){p:Str×Nat×List Str}(hp:p∈fl):p.1∈mP hk al/\(∀g∈p.2.2,g∈mP hk al)/\p.2.2.length<=2:=by
 have m:=S.mn
 rcases ok.ok p hp with ⟨h1,h2⟩|⟨h1,h2⟩
 ·refine ⟨S.goals _ h1,?_,?_⟩
  ·intro g hg
   rcases h2 with h2|h2|h2|h2<;>rw [h2] at hg<;>simp only [aB,aU,or_false] at hg
   ·rw [hg];exact m.1
   ·rw [hg];exact m.2.1
   ·rcases hg with hg|hg<;>rw [hg];exact m.1;exact m.2.1
   ·rcases hg with hg|hg<;>rw [hg];exact m.2.1;exact m.1
  ·rcases h2 with h2|h2|h2|h2<;>rw [h2]<;>simp
 ·rw [h1,h2]
  exact ⟨m.1,λg hg=>by rw [aJ.mp hg];exact m.2.1,by simp⟩
section
variable{b:Nat}{nt f:Str}
set_option tactic.hygienic true in
theorem ao5(mG:al<4)(hb:b=lK nt)(uN:oR hk al fl)(sI:oR hk al ml)(sJ:uL (mP hk al) nt (vL nm nt) hl)(D:Dn (wU hk al b) (mP hk al) nm fl ml hl (oG L hk al b nm nt) η):Fin hk al b nm nt fl ml hl η:=by
 have S:=stat hk al mG
 have zB:b=0\/b=1:=by rw [hb];unfold lK;split<;>simp
 have Ck:=chk hk al b mG zB
 obtain ⟨_,_,cp⟩:=aae (L:=L) (nm:=nm) mG hb
 have cps:∀n∈lg hk al,(∃fs,(oG L hk al b nm nt).get 1 (b+(jC hk al n).kQ)=some (.inst 226 fs)/\HV hk al b (jC hk al n) fs)/\(oG L hk al b nm nt).get 1 (b+(jC hk al n).nq)=some (.list (((jv qk n).getD []).map λg=>.ref 1 (b+(jC hk al g).kQ)))/\(oG L hk al b nm nt).get 1 (b+(jC hk al n).nD)=some (.list [])/\(oG L hk al b nm nt).get 1 (b+(jC hk al n).kX)=some .jE:=λn hn=>by
  have h:=cp n hn
  unfold DX at h
  simp only [aN] at h
  refine zL (S.pos _ (ent S hn)) λp1 p2 p3 p4=>?_
  refine jZ (Z6 h.1) λfs a a'=>?_
  exact ⟨⟨fs,by rw [vO hb p1];exact a,a'⟩,by rw [vO hb p3];exact Z8 h.2.1,by rw [vO hb p2];exact Z7 h.2.2.1,by rw [vO hb p4];exact OB h.2.2.2⟩
 have kF:∀p∈fl,p.1∈lg hk al:=λp hp=>S.sH _ (zG S uN hp).1
 have kM:∀p∈ml,p.1∈lg hk al:=λp hp=>S.sH _ (zG S sI hp).1
 have keep:∀(i:Nat) (o:AO),(∀n∈lg hk al,n∈fl.map az->i≠(jC hk al n).nD)->(∀n∈lg hk al,n∈ml.map az->i≠(jC hk al n).nq)->(∀n∈lg hk al,n∈mP hk al->i≠(jC hk al n).kX)->(oG L hk al b nm nt).get 1 (b+i)=some o->η.get 1 (b+i)=some o:=λi o h1 h2 h3 e=>by
  refine D.kn.get _ _ _ ?_ e
  rintro ⟨_,⟨p,hp,e⟩|⟨p,hp,e⟩|⟨x,hx,e⟩⟩
  ·exact h1 _ (kF p hp) (aQ.mpr ⟨p,hp,rfl⟩) (bz e)
  ·exact h2 _ (kM p hp) (aQ.mpr ⟨p,hp,rfl⟩) (bz e)
  ·exact h3 _ (S.sH x hx) hx (bz e)
 have low:∀(i:Nat) (o:AO),i∈[1,2,4,45,46,107,109,111,113]->(hM hk al b)[i - 1]?=some o->1<=i->η.get 1 (b+i)=some o:=λi o hi e h1=>by
  refine keep i o (λn hn J e=>?_) (λn hn J e=>?_) (λn hn J e=>?_) (by rw [vO hb h1];exact e)
  ·exact (S.low _ (ent S hn) i hi).2.2.1 e.symm
  ·exact (S.low _ (ent S hn) i hi).2.2.2 e.symm
  ·exact (S.low _ (ent S hn) i hi).2.1 e.symm
 refine ⟨λn hn=>?_,λn hn=>?_,λn hn=>?_,λn hn=>?_,?_,low 2 _ (by simp) (OB Ck.sC) (dc rfl),?_,?_,?_,λx hx=>?_,?_⟩
 ·refine jP (cps n hn) λlX J=>?_
  obtain ⟨fs,a,a'⟩:=lX
  refine ⟨fs,keep _ _ (λm hm J e=>?_) (λm hm J e=>?_) (λm hm J e=>?_) a,a'⟩
  ·exact (S.apart _ (ent S hn) _ (ent S hm)).1 e
  ·exact (S.apart _ (ent S hn) _ (ent S hm)).2.1 e
  ·exact (S.apart _ (ent S hn) _ (ent S hm)).2.2.1 e
 ·by_cases lU:n∈fl.map az
  ·refine jZ (aQ.mp lU) λp hp pJ=>?_
   obtain rfl:=pJ
   have:=D.front p hp
   unfold rowOf
   rw [DU uN.nodup hp]
   exact this
  ·have e0:rowOf fl n=[]:=by unfold rowOf;rw [OQ lU]
   rw [e0]
   refine keep _ _ (λm hm tP e=>?_) (λm hm J e=>?_) (λm hm J e=>?_) (cps n hn).2.2.1
   ·exact lU (by rw [yr S (f:=MI.nD) S.Z0 hn hm e];exact tP)
   ·exact (S.apart _ (ent S hn) _ (ent S hm)).2.2.2.1 e
   ·exact (S.apart _ (ent S hn) _ (ent S hm)).2.2.2.2.1 e
 ·by_cases lU:n∈ml.map az
  ·refine jZ (aQ.mp lU) λp hp wF=>?_
   obtain rfl:=wF
   have:=D.mix p hp
   unfold uP
   rw [DU sI.nodup hp]
   exact this
  ·have e0:uP ml n=(jv qk n).getD []:=by unfold uP;rw [OQ lU]
   rw [e0]
   refine keep _ _ (λm hm J e=>?_) (λm hm tP e=>?_) (λm hm J e=>?_) (cps n hn).2.1
   ·exact (S.apart _ (ent S hm) _ (ent S hn)).2.2.2.1 e.symm
   ·exact lU (by rw [yr S (f:=MI.nq) S.Z1 hn hm e];exact tP)
   ·exact (S.apart _ (ent S hn) _ (ent S hm)).2.2.2.2.2 e
 ·induction hg:jv hl n using Option.casesOn with
 |some h=>exact D.mr _ (qW hg)
 |none=>
   have hnk:n∉hl.map az:=λh=>by
    refine jZ (aQ.mp h) λp hp Dd=>?_
    obtain rfl:=Dd
    rw [DV sJ.nodup hp] at hg
    exact xm hg
   by_cases yg:n∈mP hk al
   ·exact D.rest n yg hnk
   ·refine keep _ _ (λm hm J e=>?_) (λm hm J e=>?_) (λm hm tP e=>?_) (cps n hn).2.2.2
    ·exact (S.apart _ (ent S hm) _ (ent S hn)).2.2.2.2.1 e.symm
    ·exact (S.apart _ (ent S hm) _ (ent S hn)).2.2.2.2.2 e.symm
    ·exact yg (by rw [yr S (f:=MI.kX) S.AR hn hm e];exact tP)
 ·have h:=Ck.world
  unfold aac at h
  split at h
  ·rename_i c ws hw
   simp only [aN] at h
   refine aeU (h) λh1 h2 h3 h4 h5 h6=>?_
   unfold Z9 at h6
   simp only [aN,er] at h6
   rw [aP h1] at hw
   exact ⟨ws,low 1 _ (by simp) hw (dc rfl),Ow h2,qD h3,qD h4,qD h5,h6.1,h6.2.1,h6.2.2.1,h6.2.2.2.1,h6.2.2.2.2⟩
  ·exact xf h
 ·refine oH (HZ Ck.made) λl u a c=>?_
  rw [aN] at c
  exact yx l u (low 4 _ (by simp) a (dc rfl)) (qD c.1) (qD c.2)
 ·refine oH (HZ Ck.mod) λl u a c=>?_
  exact yw l u (low 45 _ (by simp) a (dc rfl)) (λx hx=>qD (BF c hx))
 ·refine oH (HZ Ck.act) λl u a c=>?_
  exact yw l u (low 46 _ (by simp) a (dc rfl)) c
 ·refine vV (ao4 (BF Ck.things hx)) λfs a c d=>?_
  have ht:wR x∈[1,2,4,45,46,107,109,111,113]/\1<=wR x:=by
   unfold wR
   split
   ·simp
   ·split
    ·simp
    ·split<;>simp
  exact ⟨fs,low _ _ ht.1 a ht.2,c,d⟩
 ·have zero:∀i o,i<=b->(oG L hk al b nm nt).get 1 i=some o->η.get 1 i=some o:=λi o hi e=>by
   refine D.kn.get _ _ _ ?_ e
   rintro ⟨_,⟨p,hp,e⟩|⟨p,hp,e⟩|⟨x,hx,e⟩⟩
   ·have:1<=(jC hk al p.1).nD:=(S.pos _ (ent S (kF p hp))).2.1
    have e:i=b+(jC hk al p.1).nD:=e
    exact IC hi this e
   ·have:1<=(jC hk al p.1).nq:=(S.pos _ (ent S (kM p hp))).2.2.1
    have e:i=b+(jC hk al p.1).nq:=e
    exact IC hi this e
   ·have:1<=(jC hk al x).kX:=(S.pos _ (ent S (S.sH x hx))).2.2.2
    have e:i=b+(jC hk al x).kX:=e
    exact IC hi this e
  by_cases nF:nt=kT
  ·have b0:b=0:=by rw [hb];unfold lK;rw [if_pos nF]
   refine .inl ⟨nF,b0,zero 0 _ (Qt) ?_⟩
   unfold oG oS
   rw [if_pos nF]
   rfl
  ·have b1:b=1:=by rw [hb];unfold lK;rw [if_neg nF]
   refine .inr ⟨nF,b1,zero 1 _ (aeL b1) ?_,zero 0 _ (Qt) ?_⟩
   ·unfold oG oS
    rw [if_neg nF]
    rfl
   ·unfold oG oS
    rw [if_neg nF]
    rfl
end
end
section
def wV(hk:Bool)(al b:Nat)(nm nt:Str)(fl ml:Rows)(hl:pR)(η:AH)(ln:Str->List Str):Cfg where
 ns:=lg hk al
 kQ n:=b+(jC hk al n).kQ
 num n:=(jC hk al n).num
 cls n:=(jC hk al n).cls
 jJ n:=(jC hk al n).jJ
 nj n:=(jC hk al n).nj
 own n:=(jC hk al n).own
 owner n:=(jC hk al n).owner
 nat n:=zF (jC hk al n).nat
 front n:=rowOf fl n
 mix n:=uP ml n
 nD n:=b+(jC hk al n).nD
 nq n:=b+(jC hk al n).nq
 kX n:=b+(jC hk al n).kX
 has n:=jv hl n
 name:=nm
 native:=nt
 line:=ln
 depth n:=(jC hk al n).depth
 rank n:=(jC hk al n).rank
 jW:=b+1
 pS:=OI hk al
 tB:=b
 C8:=0
 sC:=b+2
 made:=b+4
 fix i:=if (tM hk al).any (λp=>aj i (b+p.2.kQ) || aj i (b+p.2.kX)) then none else η.get 1 i
theorem aaf{C C':Cfg}(h1:C.front=C'.front)(h2:C.mix=C'.mix):∀f,C.visit f=C'.visit f
|0=>rfl
|f+1=>by
  funext s g
  unfold Cfg.visit
  rw [h1,h2,aaf h1 h2 f]
theorem ao6{C':Cfg}(h1:C.front=C'.front)(h2:C.mix=C'.mix)(n:Str)(b:List Str):C.pA n b=C'.pA n b:=by
 unfold Cfg.pA Cfg.nE
 rw [h1,h2,aaf h1 h2]
def yt(C:Cfg):Nat->Str->List Str
|0,_=>[]
|f+1,n=>C.pA n (match C.jJ n with
 |none=>[]
 |some p=>yt C f p)
theorem aag{C:Cfg}(h:∀n∈C.ns,∀p,C.jJ n=some p->p∈C.ns/\C.depth p<C.depth n):∀(f f':Nat) (n:Str),n∈C.ns->C.depth n<f->C.depth n<f'->yt C f n=yt C f' n
|0,_,_,_,h1,_=>absurd h1 (uQ)
|_,0,_,_,_,h1=>absurd h1 (uQ)
|f+1,f'+1,n,hn,h1,h2=>by
  unfold yt
  induction hp:C.jJ n using Option.casesOn with
 |none=>rfl
 |some p=>
   have:=h n hn p hp
   dsimp only
   rw [aag h f f' p this.1 (qY (by assumption) this.2) (qY (by assumption) this.2)]
def m7(hk:Bool)(al b:Nat)(nm nt:Str)(fl ml:Rows)(hl:pR)(η:AH):Cfg:=
 wV hk al b nm nt fl ml hl η (yt (wV hk al b nm nt fl ml hl η λJ=>[]) 12)
theorem aah{hk:Bool}{al b:Nat}{nm nt:Str}{fl ml:Rows}{hl:pR}{η:AH}:∀(f:Nat) (n:Str),sD (m7 hk al b nm nt fl ml hl η) f n=HM hk al f n
|0,_=>rfl
|f+1,n=>by
  show (if (jC hk al n).nj=true then match (jC hk al n).jJ with
  |some p=>sD (m7 hk al b nm nt fl ml hl η) f p
  |none=>n
   else n)=_
  unfold HM
  induction (jC hk al n).jJ using Option.casesOn with
 |none=>rfl
 |some p=>dsimp only;rw [aah f p]
theorem OS{hk:Bool}{al b:Nat}{nm nt:Str}{fl ml:Rows}{hl:pR}{η:AH}:∀(f:Nat) (o:Option Str),wL (m7 hk al b nm nt fl ml hl η) f o=HN hk al f o
|0,_=>rfl
|f+1,none=>rfl
|f+1,some p=>by
  show (match (jC hk al p).own with
  |some x=>some x
  |none=>wL (m7 hk al b nm nt fl ml hl η) f (jC hk al p).jJ)=_
  unfold HN
  split
  ·rename_i h;first|rw [h]|rfl
  ·rename_i h;first|(rw [h];exact OS f _)|exact OS f _
theorem ao7{b:Nat}{nt:Str}(n:Str):vz (m7 hk al b nm nt fl ml hl η) n=ZZ hk al n:=by
 show (match (jC hk al n).own with
 |some x=>x
 |none=>(if (jC hk al n).cls=true/\(jC hk al n).nj=false then wL (m7 hk al b nm nt fl ml hl η) 11 (jC hk al n).jJ else none).getD (jC hk al n).owner)=_
 rw [OS]
 rfl
theorem ao8{b:Nat}{nt:Str}(o:Str):rF (m7 hk al b nm nt fl ml hl η) o=ZY hk al o:=by
 show (if (jC hk al o).cls=true then sD (m7 hk al b nm nt fl ml hl η) 11 o else o)=_
 rw [aah]
 rfl
theorem ao9(S:Stat hk al){p q:Str×MI}(hp:p∈tM hk al)(hq:q∈tM hk al)(e:p.1=q.1:=by rfl):p=q:=by
 have nd:=S.nodup
 unfold lg at nd
 rw [fE] at nd
 exact H6 (f:=λp:Str×MI=>p.1) nd hp hq e
section
variable{b:Nat}{nt f:Str}
theorem aai(S:Stat hk al){ln:Str->List Str}(h:∀n∈lg hk al,i≠b+(jC hk al n).kQ/\i≠b+(jC hk al n).kX):(wV hk al b nm nt fl ml hl η ln).fix i=η.get 1 i:=by
 show (if (tM hk al).any (λp=>aj i (b+p.2.kQ) || aj i (b+p.2.kX)) then none else η.get 1 i)=_
 rw [if_neg]
 intro hc
 rw [dg] at hc
 refine jZ (hc) λp hp hb=>?_
 have hn:p.1∈lg hk al:=aQ.mpr ⟨p,hp,rfl⟩
 have he:=ent S hn
 have:p.2=jC hk al p.1:=by
  have:=ao9 S hp he
  exact congrArg cP this
 rw [this,bC] at hb
 rcases hb with hb|hb
 ·exact (h _ hn).1 (aP hb)
 ·exact (h _ hn).2 (aP hb)
end
end
section
section
variable{b:Nat}{nt f:Str}
theorem OU(S:Stat hk al)(ok:oR hk al fl)(hg:g∈rowOf fl n):g∈lg hk al/\(jC hk al g).rank<(jC hk al n).rank/\(jC hk al g).jJ=none:=by
 have m:=S.mn
 unfold rowOf at hg
 cases hr:jv fl n with
|none=>rw [hr] at hg;cases hg
|some p=>
  rw [hr] at hg
  dsimp only at hg
  have hp:=qW hr
  have gg:g=j6\/g=lJ:=by
   rcases ok.ok _ hp with ⟨_,h2⟩|⟨_,h2⟩
   ·rcases h2 with h2|h2|h2|h2<;>dsimp only at h2<;>rw [h2] at hg<;>simp only [aB,aU,or_false] at hg
    ·exact .inl hg
    ·exact .inr hg
    ·exact hg
    ·exact hg.symm
   ·dsimp only at h2
    rw [h2] at hg
    exact .inr (aJ.mp hg)
  have gn:g∈lg hk al/\(jC hk al g).jJ=none:=by
   rcases gg with rfl|rfl
   ·exact ⟨S.sH _ m.1,m.2.2.2.2.1⟩
   ·exact ⟨S.sH _ m.2.1,m.2.2.2.2.2⟩
  refine ⟨gn.1,?_,gn.2⟩
  rcases ok.ok _ hp with ⟨h1,_⟩|⟨h1,h2⟩
  ·have h1:n∈vH hk al:=h1
   have:=(S.aoX n h1).2
   rcases gg with rfl|rfl
   ·rw [this,m.2.2.1];decide
   ·rw [this,m.2.2.2.1];decide
  ·have h1:n=j6:=h1
   dsimp only at h2
   rw [h2] at hg
   rw [aJ.mp hg,h1,m.2.2.1,m.2.2.2.1]
   decide
theorem apa(S:Stat hk al)(ok:oR hk al fl)(n:Str):(rowOf fl n).length<=2:=by
 unfold rowOf
 cases hr:jv fl n with
|none=>simp
|some p=>exact (zG S ok (qW hr)).2.2
theorem aaj(S:Stat hk al)(ok:oR hk al ml)(hg:g∈uP ml n):g∈lg hk al/\(jC hk al g).rank<(jC hk al n).rank/\(jC hk al g).jJ=none:=by
 unfold uP at hg
 cases hr:jv ml n with
|some p=>
  rw [hr] at hg
  refine OU S ok (n:=n) ?_
  unfold rowOf
  rw [hr]
  exact hg
|none=>
  rw [hr] at hg
  dsimp only at hg
  cases hw:jv qk n with
 |none=>rw [hw] at hg;cases hg
 |some l=>
   rw [hw] at hg
   have h:=S.within _ (qW hw)
   refine pU (h.2.2 g hg) λa b c=>?_
   have h1:(jC hk al n).rank=2:=h.1
   exact ⟨a,by exact abv b h1,c⟩
theorem apb(S:Stat hk al)(ok:oR hk al ml)(n:Str):(uP ml n).length<=2:=by
 unfold uP
 cases hr:jv ml n with
|some p=>exact (zG S ok (qW hr)).2.2
|none=>
  dsimp only
  cases hw:jv qk n with
 |none=>simp
 |some l=>exact (S.within _ (qW hw)).2.1
theorem apc(nm nt:Str):vL nm nt=nQ\/vL nm nt=kU:=by unfold vL;split;exact .inl rfl;exact .inr rfl
theorem apd(mG:al<4)(uN:oR hk al fl)(sI:oR hk al ml)(sJ:uL (mP hk al) nt (vL nm nt) hl)(A3:nm=Cu\/nm=uv\/nm=uq)(nF:nt=kT\/nt=kO\/nt=kG\/nt=kH)(Fi:Fin hk al b nm nt fl ml hl η):lS (m7 hk al b nm nt fl ml hl η):=by
 have S:=stat hk al mG
 have ff:∀i,(∀n∈lg hk al,i≠b+(jC hk al n).kQ/\i≠b+(jC hk al n).kX)->(m7 hk al b nm nt fl ml hl η).fix i=η.get 1 i:=λi h=>aai S h
 have jJ:∀n∈lg hk al,∀p,(jC hk al n).jJ=some p->p∈lg hk al/\(jC hk al p).depth<(jC hk al n).depth:=λn hn p hp=>by
  have:=S.jJ _ (ent S hn)
  dsimp only at this
  rw [hp] at this
  simpa using this
 have lows:∀i∈[1,2,4,45,46,107,109,111,113],∀n∈lg hk al,b+i≠b+(jC hk al n).kQ/\b+i≠b+(jC hk al n).kX:=λi hi n hn=>by
  have:=S.low _ (ent S hn) i hi
  dsimp only at this
  exact O1 this
 have zero:∀i,i<=b->∀n∈lg hk al,i≠b+(jC hk al n).kQ/\i≠b+(jC hk al n).kX:=λi hi n hn=>by
  have:=S.pos _ (ent S hn)
  dsimp only at this
  exact abw hi this
 have nin:∀n∈lg hk al,jv hl n=none->nt=kT\/zF (jC hk al n).nat≠.str nt:=λn hn hh=>by
  by_cases h:nt=kT
  ·exact .inl h
  ·refine .inr λe=>?_
   have hs:nt∈[kO,kG,kH]:=by simpa using nF.resolve_left h
   have By:(jC hk al n).nat=some nt:=by
    cases hx:(jC hk al n).nat with
   |none=>rw [hx] at e;cases e
   |some s=>rw [hx] at e;cases e;rfl
   have:=S.nat _ (ent S hn) nt hs By
   dsimp only at this
   rw [this] at hh
   refine jZ (aQ.mp (sJ.nt h)) λp hp e=>?_
   rw [<-e,DV sJ.nodup hp] at hh
   exact xm hh
 exact {
  jJ:=jJ
  deep:=λn hn=>S.deep _ (ent S hn)
  Gn:=λn hn h=>by
   have:=S.Gn _ (ent S hn) h
   dsimp only at this
   exact cz.mp this
  own:=λn hn p hp=>by
   have:=S.own _ (ent S hn)
   dsimp only at this
   have hp:(jC hk al n).own=some p:=hp
   rw [hp] at this
   have ape:p∈lg hk al:=by simpa using this
   exact ape
  owner:=λn hn=>S.owner _ (ent S hn)
  front:=λn hn g hg=>by
   have:=OU S uN hg
   exact ⟨this.1,this.2.1⟩
  mix:=λn hn g hg=>by
   have:=aaj S sI hg
   exact ⟨this.1,this.2.1⟩
  few:=S.few
  rank:=λn hn=>S.rank _ (ent S hn)
  Xm:=λn hn g hg=>by
   rcases hg with hg|hg
   ·exact (OU S uN hg).2.2
   ·exact (aaj S sI hg).2.2
  AK:=λn hn=>apa S uN n
  AP:=λn hn=>apb S sI n
  line:=λn hn=>by
   show yt (wV hk al b nm nt fl ml hl η λJ=>[]) 12 n=Cfg.pA (m7 hk al b nm nt fl ml hl η) n (match (jC hk al n).jJ with|none=>[]|some p=>yt (wV hk al b nm nt fl ml hl η λJ=>[]) 12 p)
   rw [ao6 (C:=m7 hk al b nm nt fl ml hl η) (C':=wV hk al b nm nt fl ml hl η λJ=>[]) rfl rfl]
   show Cfg.pA (wV hk al b nm nt fl ml hl η λJ=>[]) n (match (jC hk al n).jJ with|none=>[]|some p=>yt (wV hk al b nm nt fl ml hl η λJ=>[]) 11 p)=_
   cases hp:(jC hk al n).jJ with
  |none=>rfl
  |some p=>
    dsimp only
    refine jP (jJ n hn p hp) λh1 h2=>?_
    have h3:(jC hk al n).depth<10:=S.deep _ (ent S hn)
    rw [aag (C:=wV hk al b nm nt fl ml hl η λJ=>[]) jJ 11 12 p h1 (by show (jC hk al p).depth<11;exact abx h2 h3) (by show (jC hk al p).depth<12;exact aby h2 h3)]
  AQ:=λx hx y hy e=>by
   exact congrArg az (H6 (f:=λp:Str×MI=>p.2.num) S.AQ (ent S hx) (ent S hy) e)
  Gp:=λx hx y hy e=>yr S (f:=MI.kQ) S.Gp hx hy (bz e)
  AR:=λx hx y hy e=>yr S (f:=MI.kX) S.AR hx hy (bz e)
  Xn:=λn hn=>by
   show (if (tM hk al).any (λp=>aj (b+(jC hk al n).kQ) (b+p.2.kQ) || aj (b+(jC hk al n).kQ) (b+p.2.kX)) then none else η.get 1 _)=none
   rw [if_pos]
   refine dg.mpr ⟨_,ent S hn,?_⟩
   simp
  Xo:=λn hn=>by
   show (if (tM hk al).any (λp=>aj (b+(jC hk al n).kX) (b+p.2.kQ) || aj (b+(jC hk al n).kX) (b+p.2.kX)) then none else η.get 1 _)=none
   rw [if_pos]
   refine dg.mpr ⟨_,ent S hn,?_⟩
   simp
  AU:=λn hn=>by
   rw [show (m7 hk al b nm nt fl ml hl η).nq n=b+(jC hk al n).nq from rfl,ff]
   ·exact Fi.mix n hn
   ·intro m hm
    exact ⟨λe=>(S.apart _ (ent S hm) _ (ent S hn)).2.1 (bz e).symm,λe=>(S.apart _ (ent S hn) _ (ent S hm)).2.2.2.2.2 (bz e)⟩
  AV:=λn hn=>by
   rw [show (m7 hk al b nm nt fl ml hl η).nD n=b+(jC hk al n).nD from rfl,ff]
   ·exact Fi.front n hn
   ·intro m hm
    exact ⟨λe=>(S.apart _ (ent S hm) _ (ent S hn)).1 (bz e).symm,λe=>(S.apart _ (ent S hn) _ (ent S hm)).2.2.2.2.1 (bz e)⟩
  jW:=by
   refine o6 (Fi.world) λws h=>?_
   refine ⟨ws,?_,h.2⟩
   rw [show (m7 hk al b nm nt fl ml hl η).jW=b+1 from rfl,ff _ (lows 1 (by simp))]
   exact h.1
  made:=by
   refine wX (Fi.made) λl u h=>?_
   refine yw l u ?_ h.2
   rw [show (m7 hk al b nm nt fl ml hl η).made=b+4 from rfl,ff _ (lows 4 (by simp))]
   exact h.1
  Mp:=⟨S.HP.1,S.HP.2.1⟩
  sC:=by
   rw [show (m7 hk al b nm nt fl ml hl η).sC=b+2 from rfl,ff _ (lows 2 (by simp))]
   exact Fi.sC
  tB:=by
   rcases Fi.nat with ⟨h1,rfl,h3⟩|⟨h1,rfl,h3,h4⟩
   ·refine .inl ⟨h1,?_⟩
    rw [show (m7 hk al 0 nm nt fl ml hl η).tB=0 from rfl,ff _ (zero 0 (dc rfl))]
    exact h3
   ·refine .inr ⟨h1,0,0,?_,?_⟩
    ·rw [show (m7 hk al 1 nm nt fl ml hl η).tB=1 from rfl,ff _ (zero 1 (dc rfl))]
     exact h3
    ·rw [show (m7 hk al 1 nm nt fl ml hl η).C8=0 from rfl,ff _ (zero 0 (dc rfl))]
     exact h4
  Mq:=λn hn=>by
   cases hx:(jC hk al n).nat with
  |none=>exact .inl (by show zF (jC hk al n).nat=_;rw [hx];rfl)
  |some s=>
    refine .inr ⟨s,by show zF (jC hk al n).nat=_;rw [hx];rfl,?_⟩
    by_cases h:s=nt
    ·exact .inl h
    ·right
     show sq nt s=false
     cases hq:sq nt s with
    |false=>rfl
    |true=>exact absurd (kj.mp hq).symm h
  Xp:=nin
  o8:=λn hn s g o h=>by
   have h:jv hl n=some (s,g,o):=h
   refine jP (sJ.ok _ (qW h)) λh1 h2=>?_
   dsimp only at h1 h2
   rcases h2 with ⟨a,c,d⟩|⟨a,c,d,e,k⟩
   ·refine ⟨S.sH _ d,?_⟩
    rcases a with a|a|a
    ·exact .inl a
    ·exact .inr (.inl a)
    ·exact .inr (.inr (.inl a))
   ·subst d
    refine ⟨S.sH _ h1,.inr (.inr (.inr ⟨a,rfl,k,?_,c⟩))⟩
    show zF (jC hk al o).nat=.str nt
    have hs:nt∈[kO,kG,kH]:=by simpa using nF.resolve_left k
    rw [e,S.aoZ nt hs]
    rfl
  names:=A3
  wJ:=nF }
end
end
section
theorem apf(O:lS C){c p:Str}(hc:c∈C.ns)(hp:C.jJ c=some p):2<=(C.line c).length:=by
 have hb:=Yx O hc
 rw [hp] at hb
 have MD:=(O.jJ c hc p hp)
 have L1:=GU O 11 0 (some c) (λx h=>by cases h;exact ⟨hc,by have:=O.deep c hc;exact Ib this⟩)
 have L2:=GU O 10 1 (some p) (λx h=>by cases h;exact ⟨MD.1,by have:=O.deep p MD.1;assumption⟩)
 have hcs:=GQ O (C:=C) (x:=c)
 have hps:=GQ O (C:=C) (x:=p)
 have m1:c∈C.line c:=by
  rw [show C.line c=C.qz (some c) from rfl,<-L1.mem,A9,if_pos hcs]
  split
  ·rfl
  ·split<;>rfl
 have mp:p∈C.qz (some p):=by
  rw [<-L2.mem,A9,if_pos hps]
  split
  ·rfl
  ·split<;>rfl
 have hs:(ol C 10 1 (some p) p).isSome=true:=(L2.mem p).mpr mp
 have m2:p∈C.line c:=by
  rw [show C.line c=C.qz (some c) from rfl,<-L1.mem,A9,hp]
  split
  ·split
   ·rfl
   ·cases h:ol C 10 1 (some p) p with
   |none=>rw [h] at hs;cases hs
   |some s=>rfl
  ·exact hs
 have mQ:c≠p:=λe=>hb (by rw [<-e] at mp ⊢;exact mp)
 match hl:C.line c,m1,m2 with
|[],h,_=>cases h
|[x],h,h'=>
  exfalso
  rw [aJ] at h h'
  exact mQ (h.trans h'.symm)
|x::y::r,_,_=>simp
def tV(hk:Bool)(al:Nat)(nm nt f:Str)(fl ml:Rows)(hl:pR)(jB:AH):Bk where
 above x:=jv (oQ hk al) x
 front x:=(jv fl x).map (·.2)
 mix x:=(jv ml x).map (·.2)
 has x:=jv hl x
 name:=nm
 native:=nt
 first:=f
 bk:=9
 ab:=5
 fr:=6
 mx:=7
 hs:=8
 fix i:=if i=1 then none else jB.get 0 i
section
variable{b:Nat}{nt f:Str}
theorem apg(R:mL jB i fl)(hi:i≠1):GF (tV hk al nm nt f fl ml hl jB).fix i λx=>(jv fl x).map (·.2):=by
 have fx:∀j,j≠1->(tV hk al nm nt f fl ml hl jB).fix j=jB.get 0 j:=λj hj=>if_neg hj
 rcases R.at_ with ⟨rfl,h⟩|⟨u,h⟩
 ·exact .inl ⟨by rw [fx i hi];exact h,λx=>rfl⟩
 ·refine .inr ⟨_,u,by rw [fx i hi];exact h,λx=>?_⟩
  show (_/\(jv fl x).map (·.2)=none)\/∃j l,_/\(jv fl x).map (·.2)=some l/\_
  rw [DM]
  cases hg:jv fl x with
 |none=>exact .inl ⟨rfl,rfl⟩
 |some p=>
   have:=R.row _ (qW hg)
   exact .inr ⟨p.1,p.2,rfl,rfl,by rw [fx _ (by have:=this.1;dsimp only at this;exact BJ this)];exact this.2⟩
theorem aph(A:zE hk al nm nt f fl ml hl jB):tQ (tV hk al nm nt f fl ml hl jB):=by
 have fx:∀j,j≠1->(tV hk al nm nt f fl ml hl jB).fix j=jB.get 0 j:=λj hj=>if_neg hj
 refine ⟨?_,?_,?_,?_,?_,rfl⟩
 ·refine oH (A.bk) λd u h h'=>?_
  exact yw d u (by rw [show (tV hk al nm nt f fl ml hl jB).bk=9 from rfl,fx 9 (dc rfl)];exact h) h'
 ·refine o6 (A.above) λu h=>?_
  refine yw _ u (by rw [show (tV hk al nm nt f fl ml hl jB).ab=5 from rfl,fx 5 (dc rfl)];exact h) (λx=>Bf wM _ x)
 ·have:=apg (hk:=hk) (al:=al) (nm:=nm) (nt:=nt) (f:=f) (ml:=ml) (hl:=hl) A.front (dc rfl)
  exact this
 ·have R:=A.mixed
  rcases R.at_ with ⟨h0,h⟩|⟨u,h⟩
  ·subst h0
   exact .inl ⟨by rw [show (tV hk al nm nt f fl [] hl jB).mx=7 from rfl,fx 7 (dc rfl)];exact h,λx=>rfl⟩
  ·refine .inr ⟨_,u,by rw [show (tV hk al nm nt f fl ml hl jB).mx=7 from rfl,fx 7 (dc rfl)];exact h,λx=>?_⟩
   show (_/\(jv ml x).map (·.2)=none)\/∃j l,_/\(jv ml x).map (·.2)=some l/\_
   rw [DM]
   cases hg:jv ml x with
  |none=>exact .inl ⟨rfl,rfl⟩
  |some p=>
    have:=R.row _ (qW hg)
    exact .inr ⟨p.1,p.2,rfl,rfl,by rw [fx _ (by have:=this.1;dsimp only at this;exact BJ this)];exact this.2⟩
 ·rcases A.has with ⟨h,_⟩|⟨u,h⟩
  ·exact absurd h A.mQ
  ·exact yw _ u (by rw [show (tV hk al nm nt f fl ml hl jB).hs=8 from rfl,fx 8 (dc rfl)];exact h) (λx=>ZU hl x)
theorem apj(mG:al<4):CB (m7 hk al b nm nt fl ml hl η) (tV hk al nm nt f fl ml hl jB):=by
 have S:=stat hk al mG
 refine ⟨λx J=>?_,λx J=>?_,λx J=>rfl,λx hx=>S.above _ (ent S hx),rfl⟩
 ·show rowOf fl x=((jv fl x).map (·.2)).getD []
  unfold rowOf
  cases jv fl x<;>rfl
 ·show uP ml x=((jv ml x).map (·.2)).getD _
  unfold uP
  cases jv ml x<;>rfl
theorem Fin.congr(h:∀r i,jt.get r i=η.get r i)(F:Fin hk al b nm nt fl ml hl η):Fin hk al b nm nt fl ml hl jt:=by
 refine ⟨?_,?_,?_,λn hn=>?_,?_,?_,?_,?_,?_,?_,?_⟩
 ·simpa only [h] using F.inst
 ·simpa only [h] using F.front
 ·simpa only [h] using F.mix
 ·have:=F.mr n hn
  cases hg:jv hl n with
 |none=>rw [hg] at this;dsimp only at this ⊢;rw [h];exact this
 |some x=>
   rw [hg] at this
   dsimp only at this ⊢
   unfold MethAt at this ⊢
   simpa only [h] using this
 ·simpa only [h] using F.world
 ·simpa only [h] using F.sC
 ·simpa only [h] using F.made
 ·simpa only [h] using F.mod
 ·simpa only [h] using F.act
 ·simpa only [h] using F.things
 ·simpa only [h] using F.nat
theorem OV(o:Option Str):(m7 hk al b nm nt fl ml hl η).opt o=BD hk al b o:=by cases o<;>rfl
theorem apk(mG:al<4)(F:Fin hk al b nm nt fl ml hl η)(hr:η.reg=2):WF (m7 hk al b nm nt fl ml hl η) η:=by
 refine ⟨hr,λn hn=>?_,λn hn=>?_,λi o h=>?_⟩
 ·refine jZ (F.inst n hn) λfs a I=>?_
  refine ⟨fs,a,⟨I.num,I.cls,?_,I.nj,?_,I.owner,I.nat,I.mix,I.front,I.mr,⟨.none,I.kept,.inl rfl⟩,I.Dc,I.len⟩⟩
  ·rw [OV];exact I.jJ
  ·rw [OV];exact I.own
 ·have:=F.mr n hn
  unfold uF
  rw [show (m7 hk al b nm nt fl ml hl η).has n=jv hl n from rfl]
  cases hg:jv hl n with
 |none=>rw [hg] at this;exact this
 |some h=>
   obtain ⟨s,g,o⟩:=h
   rw [hg] at this
   rcases this with ⟨h1,h2⟩|⟨h1,j,h2,h3⟩
   ·exact .inr ⟨h1,h2⟩
   ·exact .inl ⟨_,_,.ref 1 j,h2,Dl,1,j,254,.none,rfl,h3,.inl rfl,rfl⟩
 ·have h:(if (tM hk al).any (λp=>aj i (b+p.2.kQ) || aj i (b+p.2.kX)) then none else η.get 1 i)=some o:=h
  split at h
  ·exact xn h
  ·exact h
theorem apl(hk:Bool)(al:Nat)(mG:al<4):∀y∈[mj,qK,pP,qv],wQ hk al y=(if y=mj/\hk=true then some kP else none).getD (BE y)/\BE y∈lg hk al/\((if y=mj/\hk=true then some kP else none)=none\/kP∈lg hk al):=by
 have c4:al=0\/al=1\/al=2\/al=3:=Ea mG
 rcases c4 with rfl|rfl|rfl|rfl<;>cases hk<;>decide +kernel
theorem apm(A:zE hk al nm nt f fl ml hl jB)(F:Fin hk al b nm nt fl ml hl η):yj (m7 hk al b nm nt fl ml hl η) (tV hk al nm nt f fl ml hl jB) (b+45) (b+46):=by
 have mG:=A.Bv
 have S:=stat hk al mG
 have O:=apd mG A.uN A.sI A.sJ A.names A.wJ F
 have ff:∀i,(∀n∈lg hk al,i≠b+(jC hk al n).kQ/\i≠b+(jC hk al n).kX)->(m7 hk al b nm nt fl ml hl η).fix i=η.get 1 i:=λi h=>aai S h
 have lows:∀i∈[1,2,4,45,46,107,109,111,113],∀n∈lg hk al,b+i≠b+(jC hk al n).kQ/\b+i≠b+(jC hk al n).kX:=λi hi n hn=>by
  have:=S.low _ (ent S hn) i hi
  dsimp only at this
  exact O1 this
 have OW:∀n∈lg hk al,∀s g o,jv hl n=some (s,g,o)->o∈mP hk al/\(g=kU\/g=mq\/g=nQ):=λn J s g o h=>by
  obtain ⟨h1,h2⟩:=A.sJ.ok _ (qW h)
  dsimp only at h1 h2
  rcases h2 with ⟨_,c,d⟩|⟨_,c,d,_,_⟩
  ·exact ⟨d,c⟩
  ·rw [d,c]
   refine ⟨h1,?_⟩
   rcases apc nm nt with e|e<;>rw [e]
   ·exact .inr (.inr rfl)
   ·exact .inl rfl
 refine ⟨O,aph A,apj mG,⟨λn hn s g o h=>(OW n hn s g o h).2,λn hn s g o h=>?_,?_⟩,?_,λx hx=>?_⟩
 ·rw [ao8]
  exact S.cnt o (OW n hn s g o h).1
 ·obtain ⟨l,u,h1,h2⟩:=F.mod
  exact ⟨l,u,by rw [ff _ (lows 45 (by simp))];exact h1,λn hn s g o h=>h2 o (OW n hn s g o h).1⟩
 ·obtain ⟨l,u,h1,h2⟩:=F.act
  refine ⟨l,u,by rw [ff _ (lows 46 (by simp))];exact h1,λx hx=>?_⟩
  unfold OO at h2
  simp only [aN] at h2
  obtain ⟨c1,c2,c3,c4⟩:=h2
  have mods:∀y∈[jK,jU,lQ,j6,m9],∃v,jv l y=some v/\Val (m7 hk al b nm nt fl ml hl η) v (wQ hk al y):=λy hy=>by
   obtain ⟨m1,m2⟩:=S.vz y hy
   exact ⟨_,qD (BF c3 hy),.inr (.inr (.inr ⟨y,m1,rfl,by rw [ao7];exact m2.symm⟩))⟩
  have H7:∀y∈[mj,qK,pP,qv],∃v,jv l y=some v/\Val (m7 hk al b nm nt fl ml hl η) v (wQ hk al y):=λy hy=>by
   obtain ⟨e1,e2,e3⟩:=apl hk al mG y hy
   obtain ⟨fs,a,c,d⟩:=F.things y hy
   have ht:wR y∈[1,2,4,45,46,107,109,111,113]:=by
    unfold wR
    split
    ·simp
    ·split
     ·simp
     ·split<;>simp
   refine ⟨_,qD (BF c4 hy),.inr (.inr (.inl ⟨b+wR y,fs,_,BE y,rfl,by rw [ff _ (lows _ ht)];exact a,by rw [OV];exact c,d,λz hz=>?_,e2,e1⟩))⟩
   rcases e3 with e3|e3
   ·rw [e3] at hz;cases hz
   ·split at hz
    ·cases hz;exact e3
    ·cases hz
  unfold mO at hx
  simp only [aB,aU,or_false] at hx
  show ∃v,jv l x=some v/\Val (m7 hk al b nm nt fl ml hl η) v (wQ hk al x)
  rcases hx with rfl|rfl|rfl|rfl|rfl|rfl|rfl|rfl|rfl|rfl|rfl
  ·exact H7 _ (by simp)
  ·exact H7 _ (by simp)
  ·exact H7 _ (by simp)
  ·exact H7 _ (by simp)
  ·exact mods _ (by simp)
  ·exact mods _ (by simp)
  ·exact mods _ (by simp)
  ·exact mods _ (by simp)
  ·exact ⟨_,Ow c1,.inl ⟨rfl,S.HP.2.2.1⟩⟩
  ·exact ⟨_,HR c2,.inr (.inl ⟨rfl,S.HP.2.2.2⟩)⟩
  ·exact mods _ (by simp)
 ·obtain ⟨h1,h2,h3⟩:=S.heads x hx
  obtain ⟨p,hp⟩:=cz.mp h2
  exact ⟨h1,apf O h1 hp,h3⟩
end
end
section
theorem vP{α:Type}{n:Nat}{L:List α}{P:Prop}(h:n+1<=L.length)(k:∀x R,L=x::R->n<=R.length->P):P:=match L,h,k with
|[],h,_=>absurd h (gu n)
|x::R,h,k=>k x R rfl (eH h)
theorem ten{P:Prop}(h:10<=L.length)(k:∀x0 x1 x2 x3 x4 x5 x6 x7 x8 x9 R,L=x0::x1::x2::x3::x4::x5::x6::x7::x8::x9::R->P):P:=
 vP h λx0 R0 e0 h0=>vP h0 λx1 R1 e1 h1=>vP h1 λx2 R2 e2 h2=>vP h2 λx3 R3 e3 h3=>vP h3 λx4 R4 e4 h4=>vP h4 λx5 R5 e5 h5=>vP h5 λx6 R6 e6 h6=>vP h6 λx7 R7 e7 h7=>vP h7 λx8 R8 e8 h8=>vP h8 λx9 R9 e9 h9=>k x0 x1 x2 x3 x4 x5 x6 x7 x8 x9 R9 (e0.trans (congrArg (x0::·) (e1.trans (congrArg (x1::·) (e2.trans (congrArg (x2::·) (e3.trans (congrArg (x3::·) (e4.trans (congrArg (x4::·) (e5.trans (congrArg (x5::·) (e6.trans (congrArg (x6::·) (e7.trans (congrArg (x7::·) (e8.trans (congrArg (x8::·) e9))))))))))))))))))
theorem apn{x0 x1 x2 x3 x4 x6 x7 x8:AO}{R:List AO}{u5 js:Nat}{nt f:Str}(mG:al<4)(nF:nt=kT\/nt=kO\/nt=kG\/nt=kH)(hL:L=x0::x1::x2::x3::x4::.sd (lH (oQ hk al)) u5::x6::x7::x8::.sd (jN (mH nm nt++[(nJ,.ref 0 js)]) nc (.str f)) u9::R):
  ∃jB jA,rN fM 2 qf (Bx (lK nt)) ⟨[L],oS nm nt++hW (lK nt)⟩=some (vM nm (lK nt),jB)/\
   rN fM 6 (kW 2 qf) (vM nm (lK nt)) jB=some (uO nm (lK nt),jA)/\
   rN fM 1 (kW 8 qf) (uO nm (lK nt)) jA=some (uO nm (lK nt),oG L hk al (lK nt) nm nt):=by
 subst hL
 rcases nF with rfl|rfl|rfl|rfl
 ·have e1:lK kT=0:=if_pos rfl
  have e2:oS nm kT=[.jE]:=if_pos rfl
  unfold oG
  rw [e1,e2]
  exact yx _ _ (aop _ _ _ _ _ _ _ _ _ _ _ _ _ _) (aot _ .jE .jE nm) (HD hk mG (.inl rfl) _ _ _ _ _ _ _ _ .jE .jE _ _ _ _ _ _ _)
 ·have e1:lK kO=1:=if_neg (by decide +kernel)
  have e2:oS nm kO=[.sd [(nm,.tup [.none,.int 0,.int 0])] 0,.sd [(kO,.ref 1 0)] 0]:=if_neg (by decide +kernel)
  unfold oG
  rw [e1,e2]
  exact yx _ _ (aoq _ _ _ _ _ _ _ _ _ _ _ _ _ _) (Oj _ (.sd [(nm,.tup [.none,.int 0,.int 0])] 0) (.sd [(kO,.ref 1 0)] 0) nm) (HD hk mG (.inr rfl) _ _ _ _ _ _ _ _ (.sd [(nm,.tup [.none,.int 0,.int 0])] 0) (.sd [(kO,.ref 1 0)] 0) _ _ _ _ _ _ _)
 ·have e1:lK kG=1:=if_neg (by decide +kernel)
  have e2:oS nm kG=[.sd [(nm,.tup [.none,.int 0,.int 0])] 0,.sd [(kG,.ref 1 0)] 0]:=if_neg (by decide +kernel)
  unfold oG
  rw [e1,e2]
  exact yx _ _ (aor _ _ _ _ _ _ _ _ _ _ _ _ _ _) (Oj _ (.sd [(nm,.tup [.none,.int 0,.int 0])] 0) (.sd [(kG,.ref 1 0)] 0) nm) (HD hk mG (.inr rfl) _ _ _ _ _ _ _ _ (.sd [(nm,.tup [.none,.int 0,.int 0])] 0) (.sd [(kG,.ref 1 0)] 0) _ _ _ _ _ _ _)
 ·have e1:lK kH=1:=if_neg (by decide +kernel)
  have e2:oS nm kH=[.sd [(nm,.tup [.none,.int 0,.int 0])] 0,.sd [(kH,.ref 1 0)] 0]:=if_neg (by decide +kernel)
  unfold oG
  rw [e1,e2]
  exact yx _ _ (aos _ _ _ _ _ _ _ _ _ _ _ _ _ _) (Oj _ (.sd [(nm,.tup [.none,.int 0,.int 0])] 0) (.sd [(kH,.ref 1 0)] 0) nm) (HD hk mG (.inr rfl) _ _ _ _ _ _ _ _ (.sd [(nm,.tup [.none,.int 0,.int 0])] 0) (.sd [(kH,.ref 1 0)] 0) _ _ _ _ _ _ _)
section
variable{nt f:Str}
theorem apo(nF:nt=kT\/nt=kO\/nt=kG\/nt=kH){Q:PV->AH->Prop}(hK:250<=K)(q:Q (.ref 1 (lK nt+1)) ⟨[L],oS nm nt++hW (lK nt)⟩):jw K (.st (.ref 1054)) [.ref 1 (lK nt)] ⟨[L],oS nm nt⟩ Q:=by
 refine jw.le (k:=250) (Vc ZR 14 ?_ q) hK
 rcases nF with rfl|rfl|rfl|rfl
 ·have e1:lK kT=0:=if_pos rfl
  have e2:oS nm kT=[.jE]:=if_pos rfl
  rw [e1,e2]
  exact aol L nm
 ·have e1:lK kO=1:=if_neg (by decide +kernel)
  have e2:oS nm kO=[.sd [(nm,.tup [.none,.int 0,.int 0])] 0,.sd [(kO,.ref 1 0)] 0]:=if_neg (by decide +kernel)
  rw [e1,e2]
  exact aom L nm
 ·have e1:lK kG=1:=if_neg (by decide +kernel)
  have e2:oS nm kG=[.sd [(nm,.tup [.none,.int 0,.int 0])] 0,.sd [(kG,.ref 1 0)] 0]:=if_neg (by decide +kernel)
  rw [e1,e2]
  exact aon L nm
 ·have e1:lK kH=1:=if_neg (by decide +kernel)
  have e2:oS nm kH=[.sd [(nm,.tup [.none,.int 0,.int 0])] 0,.sd [(kH,.ref 1 0)] 0]:=if_neg (by decide +kernel)
  rw [e1,e2]
  exact aoo L nm
theorem apq(S:Stat hk al)(ok:oR hk al ml){p:Str×Nat×List Str}(hp:p∈ml):jv qk p.1=none:=by
 rcases ok.ok p hp with ⟨h1,_⟩|⟨h1,_⟩
 ·exact OQ (S.aoY _ h1)
 ·rw [h1]
  kernel_rfl
theorem apr(A:zE hk al nm nt f fl ml hl jB)(vQ:jB=⟨[],L⟩){Q:PV->AH->Prop}(hK:220<=K)
  (q:∀jt,Fin hk al (lK nt) nm nt fl ml hl jt->jt.reg=2->(∀i o,jB.get 0 i=some o->jt.get 0 i=some o)->Q (.tup [.ref 1 (lK nt+45),.ref 1 (lK nt+46)]) jt) :
  jw K (.st (.ref 1145)) [.ref 1 (lK nt+1),.ref 0 9] ⟨[L],oS nm nt++hW (lK nt)⟩ Q:=by
 have S:=stat hk al A.Bv
 have g0:∀i,jB.get 0 i=L[i]?:=λi=>by rw [vQ];rfl
 refine wX (A.bkx) λjs u9 h9=>?_
 refine o6 (A.above) λu5 h5=>?_
 rw [g0] at h9 h5
 have hlen:10<=L.length:=(cY.mp h9).1
 refine ten hlen λx0 x1 x2 x3 x4 x5 x6 x7 x8 x9 R hL=>?_
 have e5:x5=.sd (lH (oQ hk al)) u5:=by rw [hL] at h5;exact ai h5
 have e9:x9=.sd (jN (mH nm nt++[(nJ,.ref 0 js)]) nc (.str f)) u9:=by rw [hL] at h9;exact ai h9
 rw [e5,e9] at hL
 refine Er (apn A.Bv A.wJ hL) ληa ηb hA hB hC=>?_
 obtain ⟨raw,lists,_⟩:=aae (L:=L) (nm:=nm) (nt:=nt) A.Bv (rfl:lK nt=lK nt)
 have m0:∀i o,jB.get 0 i=some o->(oG L hk al (lK nt) nm nt).get 0 i=some o:=λi o e=>by
  rw [g0] at e
  exact e
 refine aeY (A.bk) λd ud hd J k1 k2 k3 J=>?_
 refine aoW (aaz hK) hA hB hC ?_
 refine aoR (A:=wU hk al (lK nt)) (sp:=mP hk al) (dc rfl) rfl raw (m0 _ _ hd) k1 k2 k3 (A.front.mono (λj o J e=>m0 _ _ e) (dc rfl)) (A.mixed.mono (λj o J e=>m0 _ _ e) (dc rfl)) (A.has.mono λo e=>m0 _ _ e) A.uN.nodup A.sI.nodup A.sJ.nodup (by have:=A.anV;exact O2 this) (by have:=A.anW;exact O2 this) ?_ (λp hp=>zG S A.uN hp) (λp hp=>zG S A.sI hp) (λp hp=>?_) (λp hp=>lists _ (S.sH _ (zG S A.sI hp).1) (apq S A.sI hp)) λjt D=>?_
 ·have h1:=DE (hl.map az) (mP hk al) A.sJ.nodup λx hx=>by
   refine jZ (aQ.mp hx) λp hp lX=>?_
   obtain rfl:=lX
   exact (A.sJ.ok p hp).1
  rw [aC] at h1
  have h2:=(Og (hk:=hk) (al:=al)).2
  exact aaA h1 h2
 ·refine jP (A.sJ.ok p hp) λh1 h2=>?_
  refine ⟨h1,?_⟩
  rcases h2 with ⟨_,_,h⟩|⟨_,_,h,_⟩
  ·exact h
  ·rw [h];exact h1
 ·have F:=ao5 A.Bv rfl A.uN A.sI A.sJ D
  refine q _ (F.congr λr i=>AH.BR _ _ _) ?_ λi o e=>?_
  ·have:jt.reg=1:=D.kn.reg
   show (jt.old++[jt.cur]).length=2
   rw [aE]
   have:jt.old.length=1:=this
   rw [this]
   rfl
  ·rw [AH.BR]
   exact D.kn.get _ _ _ (dc rfl) (m0 _ _ e)
end
end
theorem aps(h:η.reg=0):η=⟨[],η.cur⟩:=by
 obtain ⟨old,cur⟩:=η
 have:old.length=0:=h
 rw [jj.mp this]
theorem apt(ns:List Int)(uz:ns.length<=63):jw 349 (.st (.ref 1172)) [.fl (ns.map .int)] ⟨[],[]⟩ λv J=>v=.bool true:=by
 refine jw.wH 17 (as:=[.fl (ns.map .int)]) 0 alv (by wtm_at "o") rfl (by kernel_rfl) ?_;intro _ _
 rw [show qg=cut 4 qg zz from rfl]
 generalize qO:zz=rest
 unfold qg
 dsimp only [cut]
 wtm_at "W"
 refine (anF ns uz (by wtm_at "o")).is3 λHo w0 r0 n0=>?_
 wtm_at "W"
 refine jw.nB (by wtm_at "o") (by intro _ h;cases h) (show qF tab (.builtin "len") [.fl (ns.map .int)] Ho=some (.int (ns.map PV.int).length,Ho) from ?_) ?_
 ·show cond (kY (ns.map PV.int).length) _ none=_
  rw [mh (by rw [aC];exact PB uz)]
  rfl
 repeat' wtm_at "u"
 generalize decide (((ns.map PV.int).length:Int)<2)=tiny
 have tail:∀(most:Nat),(most=2\/most=5)->∀(Q:PV->AH->Prop),(∀(L:List AO) (hk:Bool) (al:Nat) (nm nt f:Str) (fl ml:Rows) (hl:pR) (jB:AH),jB=⟨[],L⟩->zE hk al nm nt f fl ml hl jB->Q (.ref 0 9) ⟨[L],[]⟩)->jw (349 - (19+0+1)) (.st (.ref 1140)) [.ref 0 1,.int most] Ho Q:=by
  intro most qC Q q
  refine an2 r0 n0 w0 qC (by wtm_at "o") λ{jB hk al nm nt f fl ml hl} A=>?_
  have h:=aps A.reg
  have:=q jB.cur hk al nm nt f fl ml hl jB h A
  have e:jB.fresh=⟨[jB.cur],[]⟩:=by rw [h];rfl
  rw [e]
  exact this
 have fin:∀(L:List AO) (hk:Bool) (al:Nat) (nm nt f:Str) (fl ml:Rows) (hl:pR) (jB:AH),jB=⟨[],L⟩->zE hk al nm nt f fl ml hl jB->jw (349 - (19+0+1)) (.st (.ref 1054)) [.ref 1 (lK nt)] ⟨[L],oS nm nt⟩ λv η=>Wt (349 - (19+0+1)) (.loc 4) v [some (.fl (ns.map .int)),some (.ref 0 1),some (.bool tiny),some (.ref 0 9),none,none,none,none,none,none,none,none,none,none,none,none,none,none] η λe η=>WS (349 - (19+0+1)) (.cons (.vf [.loc 5,.loc 6] (.call (.st (.ref 1145)) (.cons (.v 4) (.cons (.v 3) .nil)))) rest) 0 e η (nK λv J=>v=.bool true):=by
  intro L hk al nm nt f fl ml hl jB vQ A
  refine apo A.wJ (dc rfl) ?_
  wtm_at "W"
  refine apr A vQ (dc rfl) λjt F r' keep=>?_
  wtm_at "W"
  rw [<-qO]
  have R:=apm A F
  have run:Run (m7 hk al (lK nt) nm nt fl ml hl jt) (tV hk al nm nt f fl ml hl jB) 60 jt:=by
   refine ⟨apk A.Bv F r',λi o e=>?_,?_⟩
   ·have e:(if i=1 then none else jB.get 0 i)=some o:=e
    split at e
    ·exact xn e
    ·exact keep _ _ e
   ·refine rH (A.well.at_) λg b n h h'=>?_
    exact ⟨g,b,n,keep _ _ h,h'⟩
  exact anE R run (dc rfl) (dc rfl) λjt=>rfl
 have s3:∀(L:List AO) (hk:Bool) (al:Nat) (nm nt f:Str) (fl ml:Rows) (hl:pR) (jB:AH),jB=⟨[],L⟩->zE hk al nm nt f fl ml hl jB->WS (349 - (19+0+1)) (.cons (.asg (.loc 4) (.call (.st (.ref 1054)) (.cons (.sX (.cmp .NotEq (.item (.v 3) (.k (.str lu))) (.k (.str kT))) (.dict (.cons (.item (.v 3) (.k (.str lu))) (.dict (.cons (.item (.v 3) (.k (.str nX))) (.tup (.cons (.k .none) (.cons (.k (.int (0))) (.cons (.k (.int (0))) .nil)))) .nil)) .nil)) .jE) .nil))) (.cons (.vf [.loc 5,.loc 6] (.call (.st (.ref 1145)) (.cons (.v 4) (.cons (.v 3) .nil)))) rest)) 0 [some (.fl (ns.map .int)),some (.ref 0 1),some (.bool tiny),some (.ref 0 9),none,none,none,none,none,none,none,none,none,none,none,none,none,none] ⟨[L],[]⟩ (nK λv J=>v=.bool true):=by
  intro L hk al nm nt f fl ml hl jB vQ A
  have go:=fin L hk al nm nt f fl ml hl jB vQ A
  refine wY (A.bk) λd u hd J J J J kn kt J=>?_
  rw [vQ] at hd
  have Gu:(⟨[L],[]⟩:AH).get 0 9=some (.sd d u):=hd
  have i1:jR tab (.ref 0 9) (.str lu) ⟨[L],[]⟩=some (.str nt):=lV Gu kt
  have i2:jR tab (.ref 0 9) (.str nX) ⟨[L],[]⟩=some (.str nm):=lV Gu kn
  wtm_at "W"
  by_cases nF:nt=kT
  ·rw [show sq nt kT=true from kj.mpr nF]
   have e1:lK nt=0:=if_pos nF
   have e2:oS nm nt=[.jE]:=if_pos nF
   rw [e1,e2] at go
   wtm_at "W"
   exact go
  ·have:sq nt kT=false:=by
    induction h:sq nt kT using Bool.casesOn with
   |false=>rfl
   |true=>exact absurd (kj.mp h) nF
   rw [this]
   have e1:lK nt=1:=if_neg nF
   have e2:oS nm nt=[.sd [(nm,.tup [.none,.int 0,.int 0])] 0,.sd [(nt,.ref 1 0)] 0]:=if_neg nF
   rw [e1,e2] at go
   wtm_at "W"
   exact go
 clear fin
 induction tiny using Bool.casesOn with
|true=>
  wtm_at "W"
  refine tail 2 (.inl rfl) _ λL hk al nm nt f fl ml hl jB vQ A=>?_
  iterate 1 wtm_at "s"
  exact s3 L hk al nm nt f fl ml hl jB vQ A
|false=>
  wtm_at "W"
  refine tail 5 (.inr rfl) _ λL hk al nm nt f fl ml hl jB vQ A=>?_
  iterate 1 wtm_at "s"
  exact s3 L hk al nm nt f fl ml hl jB vQ A
end
theorem all_true:lw.Holds:=main λw s l vs ns Y hg hl hi hn J=>by
 exact walk (akj w) Y hg hl hi (apt ns hn)
end
end Mine.Internal
theorem PySem.Challenge.cw_sm0034_01_holds : PySem.Challenge.rw_sm0034_01.Holds :=
 Mine.Internal.all_true
